import PyProof.Rows.All
import Wide.All
import OpenK.AllK
import Wide.FinOn
import HandS.ForMost
import HandS.OwnEq
import HandS.Zip
import HandS.Conv
import HandS.Wide
import HandS.TupAny
import HandS.IsInst
import HandS.SortInts
import HandS.RaiseMore
import HandS.Text
import HandS.Style
import KE.GoesNew
import PySem.Challenge.RW_agedreads_k06_longest_waits
set_option Elab.async false
set_option linter.all false
set_option maxRecDepth 100000
set_option maxHeartbeats 4000000
namespace VS
abbrev St := L2.St
open PySem PySem.Spec PyProof.Rows L2

/-! deep data -/
inductive D where
  | non | bl (b : Bool) | int (i : Int) | str (x : Str) | adr (a : Addr)
  | lst (xs : List D) | tup (xs : List D) | ins (c : Nat) (fs : List D) | scr (xs : List D)

/-- the written part, the classes' addresses and their fields -/
structure Gx where
  K : PySem.W.Frag
  cls : Nat → Addr
  fld : Nat → List Str

mutual
inductive Rep (G : Gx) (F : Hp) : V → D → Prop
  | non : Rep G F .non .non
  | bl (b : Bool) : Rep G F (.bl b) (.bl b)
  | int (i : Int) : Rep G F (.int i) (.int i)
  | str (x : Str) : Rep G F (.str x) (.str x)
  | adr (a : Addr) : Rep G F (.ref a) (.adr a)
  | lst {a : Addr} {vs : List V} {ds : List D} : F a = some (.lst vs) → Reps G F vs ds → Rep G F (.ref a) (.lst ds)
  | scr {a : Addr} {vs : List V} {ds : List D} : SqL G.K F a vs → Reps G F vs ds → Rep G F (.ref a) (.scr ds)
  | tup {a : Addr} {vs : List V} {ds : List D} : F a = some (.tup vs) → Reps G F vs ds → Rep G F (.ref a) (.tup ds)
  | ins {a dx : Addr} {c : Nat} {fs : List (Str × V)} {ds : List D} : F a = some (.ins (G.cls c) dx fs) → fs.map (·.1) = G.fld c → Reps G F (fs.map (·.2)) ds → Rep G F (.ref a) (.ins c ds)
inductive Reps (G : Gx) (F : Hp) : List V → List D → Prop
  | nil : Reps G F [] []
  | cons {v : V} {vs : List V} {d : D} {ds : List D} : Rep G F v d → Reps G F vs ds → Reps G F (v :: vs) (d :: ds)
end

mutual
theorem Rep.ext {G : Gx} {F F' : Hp} (e : Ext F F') : ∀ {v : V} {d : D}, Rep G F v d → Rep G F' v d
  | _, _, .non => .non
  | _, _, .bl b => .bl b
  | _, _, .int i => .int i
  | _, _, .str x => .str x
  | _, _, .adr a => .adr a
  | _, _, .lst h r => .lst (e _ _ h) (Reps.ext e r)
  | _, _, .scr h r => .scr (h.ext e) (Reps.ext e r)
  | _, _, .tup h r => .tup (e _ _ h) (Reps.ext e r)
  | _, _, .ins h n r => .ins (e _ _ h) n (Reps.ext e r)
theorem Reps.ext {G : Gx} {F F' : Hp} (e : Ext F F') : ∀ {vs : List V} {ds : List D}, Reps G F vs ds → Reps G F' vs ds
  | _, _, .nil => .nil
  | _, _, .cons h r => .cons (Rep.ext e h) (Reps.ext e r)
end

section
variable {G : Gx} {F : Hp}
theorem Reps.length : ∀ {vs : List V} {ds : List D}, Reps G F vs ds → vs.length = ds.length
  | _, _, .nil => rfl
  | _, _, .cons _ r => by simp [Reps.length r]
theorem Reps.get : ∀ {vs : List V} {ds : List D} {i : Nat} {d : D}, Reps G F vs ds → ds[i]? = some d → ∃ v, vs[i]? = some v ∧ Rep G F v d
  | _, _, _, _, .nil, h => by simp at h
  | _, _, 0, _, .cons h _, e => by simp at e; subst e; exact ⟨_, rfl, h⟩
  | _, _, i + 1, d, .cons _ r, e => by
    obtain ⟨v, h1, h2⟩ := Reps.get (i := i) (d := d) r (by simpa using e)
    exact ⟨v, by simpa using h1, h2⟩
theorem Reps.append : ∀ {vs ws : List V} {ds es : List D}, Reps G F vs ds → Reps G F ws es → Reps G F (vs ++ ws) (ds ++ es)
  | _, _, _, _, .nil, s => s
  | _, _, _, _, .cons h r, s => .cons h (Reps.append r s)
theorem Reps.set {v : V} {d : D} (h : Rep G F v d) : ∀ {vs : List V} {ds : List D} (i : Nat), Reps G F vs ds → Reps G F (vs.set i v) (ds.set i d)
  | _, _, _, .nil => .nil
  | _, _, 0, .cons _ r => .cons h r
  | _, _, i + 1, .cons q r => .cons q (Reps.set h i r)
theorem Reps.take : ∀ {vs : List V} {ds : List D} (n : Nat), Reps G F vs ds → Reps G F (vs.take n) (ds.take n)
  | _, _, 0, _ => by simpa using Reps.nil
  | _, _, _ + 1, .nil => .nil
  | _, _, n + 1, .cons h r => .cons h (Reps.take n r)
theorem Reps.drop : ∀ {vs : List V} {ds : List D} (n : Nat), Reps G F vs ds → Reps G F (vs.drop n) (ds.drop n)
  | _, _, 0, r => r
  | _, _, _ + 1, .nil => .nil
  | _, _, n + 1, .cons _ r => Reps.drop n r
theorem Reps.one {v : V} {d : D} (h : Rep G F v d) : Reps G F [v] [d] := .cons h .nil
end

/-! slots: a value, a list of one's own, a borrowed list, self in an __init__ -/
inductive Sl where
  | no | val (d : D) | own (xs : List D) | bor (xs : List D) | slf (c : Nat) (fs : List D)
abbrev Rho := List Sl
def Sl.mut : Sl → Bool
  | .own _ => true
  | .bor _ => true
  | .slf _ _ => true
  | _ => false

/-- a def's entry -/
structure Ctx where
  G : Gx
  F0 : Hp
  H0 : Hp
  B : List Addr

def SlOk (c : Ctx) (F H : Hp) : Option V → Sl → Prop
  | _, .no => True
  | some v, .val d => Rep c.G F v d
  | some v, .own xs => ∃ p, v = V.ref p ∧ c.H0 p = none ∧ F p = none ∧ ∃ vs, H p = some (.lst vs) ∧ Reps c.G F vs xs
  | some v, .bor xs => ∃ p, v = V.ref p ∧ p ∈ c.B ∧ F p = none ∧ ∃ vs, H p = some (.lst vs) ∧ Reps c.G F vs xs
  | some v, .slf k ds => ∃ p, v = V.ref p ∧ p ∈ c.B ∧ F p = none ∧ ∃ dx fs, H p = some (.ins (c.G.cls k) dx fs) ∧ (∃ n, fs.map (·.1) = (c.G.fld k).take n) ∧ Reps c.G F (fs.map (·.2)) ds
  | none, _ => False

structure Ok (c : Ctx) (F H : Hp) (σ : VS.St) (ρ : Rho) : Prop where
  len : σ.length = ρ.length
  f0 : Ext c.F0 F
  fh : Ext F H
  fr : ∀ p o, c.H0 p = some o → p ∉ c.B → H p = some o
  al : ∀ p o, c.H0 p = some o → ∃ o', H p = some o'
  n0 : ∀ p o, c.H0 p = some o → c.F0 p = none → F p = none
  sl : ∀ (i : Nat) s, ρ[i]? = some s → ∃ ov, σ[i]? = some ov ∧ SlOk c F H ov s
  ap : ∀ (i j : Nat) s t p q, ρ[i]? = some s → ρ[j]? = some t → s.mut = true → t.mut = true → σ[i]? = some (some (V.ref p)) → σ[j]? = some (some (V.ref q)) → p = q → i = j
  hb : ∀ p ∈ c.B, ∃ o, c.H0 p = some o

/-- only new objects, all of them data -/
structure Grow (F H F' H' : Hp) : Prop where
  f : Ext F F'
  fh : Ext F' H'
  h : Ext H H'
  n : ∀ p o, H p = some o → F p = none → F' p = none
theorem Grow.refl {F H : Hp} (e : Ext F H) : Grow F H F H := ⟨Ext.rfl', e, Ext.rfl', fun _ _ _ h => h⟩
theorem Grow.trans {F H F1 H1 F2 H2 : Hp} (a : Grow F H F1 H1) (b : Grow F1 H1 F2 H2) : Grow F H F2 H2 :=
  ⟨a.f.trans b.f, b.fh, a.h.trans b.h, fun p o h n => b.n p o (a.h _ _ h) (a.n p o h n)⟩
theorem ext_none {F H : Hp} (e : Ext F H) {p : Addr} (h : H p = none) : F p = none := by
  cases q : F p with
  | none => rfl
  | some o => rw [e p o q] at h; cases h
/-- a new data object at p -/
theorem Grow.new {F H : Hp} (e : Ext F H) {p : Addr} {o : HO} (h : H p = none) : Grow F H (upd F p o) (upd H p o) where
  f := Ext.upd (ext_none e h)
  fh := fun a u q => by
    by_cases z : a = p
    · subst z; rw [upd_same] at q ⊢; exact q
    · rw [upd_ne z] at q ⊢; exact e _ _ q
  h := Ext.upd h
  n := fun a u q n => by
    have z : a ≠ p := fun z => by subst z; rw [h] at q; cases q
    rw [upd_ne z]; exact n
/-- a new object at p that is no data (yet) -/
theorem Grow.raw {F H : Hp} (e : Ext F H) {p : Addr} {o : HO} (h : H p = none) : Grow F H F (upd H p o) :=
  ⟨Ext.rfl', e.trans (Ext.upd h), Ext.upd h, fun _ _ _ n => n⟩

section
variable {c : Ctx} {F H F' H' : Hp} {σ : VS.St} {ρ : Rho}
theorem SlOk.grow (g : Grow F H F' H') : ∀ {ov : Option V} {s : Sl}, SlOk c F H ov s → SlOk c F' H' ov s
  | _, .no, _ => by simp [SlOk]
  | some _, .val _, h => Rep.ext g.f h
  | some _, .own _, ⟨p, e, h0, hf, vs, hh, r⟩ => ⟨p, e, h0, g.n _ _ hh hf, vs, g.h _ _ hh, r.ext g.f⟩
  | some _, .bor _, ⟨p, e, h0, hf, vs, hh, r⟩ => ⟨p, e, h0, g.n _ _ hh hf, vs, g.h _ _ hh, r.ext g.f⟩
  | some _, .slf _ _, ⟨p, e, h0, hf, dx, fs, hh, n, r⟩ => ⟨p, e, h0, g.n _ _ hh hf, dx, fs, g.h _ _ hh, n, r.ext g.f⟩
  | none, .val _, h => h
  | none, .own _, h => h
  | none, .bor _, h => h
  | none, .slf _ _, h => h
theorem Ok.grow (I : Ok c F H σ ρ) (g : Grow F H F' H') : Ok c F' H' σ ρ where
  len := I.len
  f0 := I.f0.trans g.f
  fh := g.fh
  fr := fun p o h1 h2 => g.h _ _ (I.fr p o h1 h2)
  al := fun p o h1 => let ⟨o', e⟩ := I.al p o h1; ⟨o', g.h _ _ e⟩
  n0 := fun p o h1 h2 => let ⟨o', e⟩ := I.al p o h1; g.n p o' e (I.n0 p o h1 h2)
  sl := fun i s e => let ⟨ov, h1, h2⟩ := I.sl i s e; ⟨ov, h1, h2.grow g⟩
  ap := I.ap
  hb := I.hb
end

/-! readings by data -/
abbrev SE := Rho → Option (D × Rho)
abbrev SB := Rho → Option (Bool × Rho)
def vt (c : Ctx) (s : SE) : TE := fun σ H Q => ∃ F ρ, Ok c F H σ ρ ∧ ∃ d ρ', s ρ = some (d, ρ') ∧ ∀ v H' F', Ext F F' → Ok c F' H' σ ρ' → Rep c.G F' v d → Q v H'
def vb (c : Ctx) (s : SB) : TT := fun σ H Q => ∃ F ρ, Ok c F H σ ρ ∧ ∃ b ρ', s ρ = some (b, ρ') ∧ ∀ H' F', Ext F F' → Ok c F' H' σ ρ' → Q b H'
theorem pe_of {X : Cx} {e : Expr} {t t' : TE} (h : PE X e t) (w : ∀ σ H Q, t' σ H Q → t σ H Q) : PE X e t' :=
  ⟨fun pins s σ H Q I q => h.run pins s σ H Q I (w σ H Q q)⟩
theorem pt_of {X : Cx} {e : Expr} {t t' : TT} (h : PT X e t) (w : ∀ σ H Q, t' σ H Q → t σ H Q) : PT X e t' :=
  ⟨fun pins s σ H Q I q => h.run pins s σ H Q I (w σ H Q q)⟩
theorem ps_of {X : Cx} {e : Stmt} {t t' : TS} (h : PS X e t) (w : ∀ σ H Q, t' Q σ H → t Q σ H) : PS X e t' :=
  ⟨fun pins s σ H Q I q => h.run pins s σ H Q I (w σ H Q q)⟩
theorem pss_of {X : Cx} {e : List Stmt} {t t' : TS} (h : PSs X e t) (w : ∀ σ H Q, t' Q σ H → t Q σ H) : PSs X e t' :=
  ⟨fun pins s σ H Q I q => h.run pins s σ H Q I (w σ H Q q)⟩
theorem pa_of {X : Cx} {e : List Expr} {t t' : TA} (h : PA X e t) (w : ∀ σ H Q, t' σ H Q → t σ H Q) : PA X e t' :=
  ⟨fun pos pins s σ H Q I q => h.run pos pins s σ H Q I (w σ H Q q)⟩

/-! names and constants -/
def sV (i : Nat) : SE := fun ρ => match ρ[i]? with
  | some (.val d) => some (d, ρ)
  | some (.own xs) => some (.lst xs, ρ.set i (.val (.lst xs)))
  | _ => none
def sK (d : D) : SE := fun ρ => some (d, ρ)
section
variable {c : Ctx} {X : Cx}
theorem Ok.freeze {F H : Hp} {σ : VS.St} {ρ : Rho} (I : Ok c F H σ ρ) {i : Nat} {xs : List D} (h : ρ[i]? = some (.own xs)) :
    ∃ p vs, σ[i]? = some (some (V.ref p)) ∧ H p = some (.lst vs) ∧ F p = none ∧ Reps c.G F vs xs ∧ Ok c (upd F p (.lst vs)) H σ (ρ.set i (.val (.lst xs))) := by
  obtain ⟨ov, h1, h2⟩ := I.sl i _ h
  cases ov with
  | none => exact h2.elim
  | some v =>
    obtain ⟨p, e, h0, hf, vs, hh, r⟩ := h2
    subst e
    have ex : Ext F (upd F p (.lst vs)) := Ext.upd hf
    refine ⟨p, vs, h1, hh, hf, r, ⟨by rw [List.length_set]; exact I.len, I.f0.trans ex, ?_, I.fr, I.al, ?_, ?_, ?_, I.hb⟩⟩
    · intro a o q
      by_cases z : a = p
      · subst z; rw [upd_same] at q; cases q; exact hh
      · rw [upd_ne z] at q; exact I.fh _ _ q
    · intro q o hq hn
      have z : q ≠ p := fun z => by subst z; rw [h0] at hq; cases hq
      rw [upd_ne z]; exact I.n0 q o hq hn
    · intro j s hs
      by_cases hj : i = j
      · subst hj
        have hl : i < ρ.length := (List.getElem?_eq_some_iff.mp h).1
        rw [List.getElem?_set_self hl] at hs
        cases hs
        exact ⟨_, h1, Rep.lst upd_same (r.ext ex)⟩
      · rw [List.getElem?_set_ne hj] at hs
        obtain ⟨ov, g1, g2⟩ := I.sl j s hs
        refine ⟨ov, g1, ?_⟩
        have ne : ∀ q, s.mut = true → ov = some (V.ref q) → q ≠ p := fun q hm e z => hj (I.ap i j _ _ _ _ h hs rfl hm h1 (by rw [g1, e]) z.symm)
        cases s with
        | no => cases ov <;> trivial
        | val d =>
          cases ov with
          | none => exact g2
          | some v => exact Rep.ext ex g2
        | own ys =>
          cases ov with
          | none => exact g2
          | some v =>
            obtain ⟨q, e, a1, a2, ws, a3, a4⟩ := g2
            exact ⟨q, e, a1, by rw [upd_ne (ne q rfl (by rw [e]))]; exact a2, ws, a3, a4.ext ex⟩
        | bor ys =>
          cases ov with
          | none => exact g2
          | some v =>
            obtain ⟨q, e, a1, a2, ws, a3, a4⟩ := g2
            exact ⟨q, e, a1, by rw [upd_ne (ne q rfl (by rw [e]))]; exact a2, ws, a3, a4.ext ex⟩
        | slf k ys =>
          cases ov with
          | none => exact g2
          | some v =>
            obtain ⟨q, e, a1, a2, dx, fs, a3, a4, a5⟩ := g2
            exact ⟨q, e, a1, by rw [upd_ne (ne q rfl (by rw [e]))]; exact a2, dx, fs, a3, a4, a5.ext ex⟩
    · intro a b s t p' q' ha hb ms mt
      by_cases ha' : i = a
      · subst ha'
        have hl : i < ρ.length := (List.getElem?_eq_some_iff.mp h).1
        rw [List.getElem?_set_self hl] at ha
        cases ha
        cases ms
      · by_cases hb' : i = b
        · subst hb'
          have hl : i < ρ.length := (List.getElem?_eq_some_iff.mp h).1
          rw [List.getElem?_set_self hl] at hb
          cases hb
          cases mt
        · rw [List.getElem?_set_ne ha'] at ha
          rw [List.getElem?_set_ne hb'] at hb
          exact I.ap a b s t p' q' ha hb ms mt
theorem ve_var {e : Expr} {i : Nat} (h : PE X e (tVar i)) : PE X e (vt c (sV i)) := by
  refine pe_of h fun σ H Q ⟨F, ρ, I, d, ρ', e, q⟩ => ?_
  unfold sV at e
  split at e
  · rename_i d' hd
    cases e
    obtain ⟨ov, h1, h2⟩ := I.sl i _ hd
    cases ov with
    | none => exact h2.elim
    | some v => exact ⟨v, h1, q v H F Ext.rfl' I h2⟩
  · rename_i xs hd
    cases e
    obtain ⟨p, vs, h1, h2, h3, h4, h5⟩ := I.freeze hd
    exact ⟨_, h1, q _ H _ (Ext.upd h3) h5 (Rep.lst upd_same (h4.ext (Ext.upd h3)))⟩
  · cases e
theorem ve_k {e : Expr} {v : V} {d : D} (h : PE X e (tC v)) (r : ∀ F, Rep c.G F v d) : PE X e (vt c (sK d)) := by
  refine pe_of h fun σ H Q ⟨F, ρ, I, d', ρ', e, q⟩ => ?_
  cases e
  exact q v H F Ext.rfl' I (r F)
theorem ve_int {i : Int} {j pos} : PE X (.Constant (.int i) j pos) (vt c (sK (.int i))) := ve_k pe_int fun _ => .int i
theorem ve_bl {b : Bool} {j pos} : PE X (.Constant (.bool b) j pos) (vt c (sK (.bl b))) := ve_k pe_bl fun _ => .bl b
theorem ve_non {j pos} : PE X (.Constant .none j pos) (vt c (sK .non)) := ve_k pe_non fun _ => .non
theorem ve_str {x : Str} {j pos} : PE X (.Constant (.str x) j pos) (vt c (sK (.str x))) := ve_k pe_str fun _ => .str x
end
end VS

set_option Elab.async false
set_option linter.all false
set_option maxRecDepth 100000
set_option maxHeartbeats 4000000
namespace VS
open PySem PySem.Spec PyProof.Rows L2

/-- a size that always fits -/
abbrev LN : Nat := 1000000
theorem ln_fit {n : Nat} (h : n ≤ LN) : n ≤ sizeLine := Nat.le_trans h (by rw [sizeLine_eq]; decide)
abbrev G1 := D → Option D
abbrev G2 := D → D → Option D
abbrev GL := List D → Option D

/-- what is wanted behind an operation on values -/
def Aft (G : Gx) (F H : Hp) (d : D) (Q : VK) : Prop := ∀ v H' F', Grow F H F' H' → Rep G F' v d → Q v H'
theorem Aft.here {G : Gx} {F H : Hp} {d : D} {Q : VK} {v : V} (q : Aft G F H d Q) (e : Ext F H) (r : Rep G F v d) : Q v H := q v H F (.refl e) r
theorem Aft.newL {G : Gx} {F H : Hp} {vs : List V} {ds : List D} {Q : VK} (q : Aft G F H (.lst ds) Q) (e : Ext F H) (r : Reps G F vs ds) : ∀ p, H p = none → Q (.ref p) (upd H p (.lst vs)) :=
  fun p h => q _ _ _ (.new e h) (.lst upd_same (r.ext (Ext.upd (ext_none e h))))
theorem Aft.newT {G : Gx} {F H : Hp} {vs : List V} {ds : List D} {Q : VK} (q : Aft G F H (.tup ds) Q) (e : Ext F H) (r : Reps G F vs ds) : ∀ p, H p = none → Q (.ref p) (upd H p (.tup vs)) :=
  fun p h => q _ _ _ (.new e h) (.tup upd_same (r.ext (Ext.upd (ext_none e h))))

def rD (G : Gx) (g : G2) : R2 := fun x y H Q => ∃ F a b d, Ext F H ∧ Rep G F x a ∧ Rep G F y b ∧ g a b = some d ∧ Aft G F H d Q
def rU1 (G : Gx) (g : G1) : V → Hp → VK → Prop := fun x H Q => ∃ F a d, Ext F H ∧ Rep G F x a ∧ g a = some d ∧ Aft G F H d Q
def rL (G : Gx) (g : GL) : List V → Hp → VK → Prop := fun xs H Q => ∃ F ds d, Ext F H ∧ Reps G F xs ds ∧ g ds = some d ∧ Aft G F H d Q
abbrev OpD (c : Ctx) (X : Cx) (f : Value → Value → Sem Value) (g : G2) := OpR X f (rD c.G g)
abbrev CaD (c : Ctx) (X : Cx) (f : Value) (g : GL) := CallR X f (rL c.G g)
theorem opr_of {X : Cx} {f : Value → Value → Sem Value} {r r' : R2} (h : OpR X f r) (w : ∀ x y H Q, r' x y H Q → r x y H Q) : OpR X f r' :=
  fun pins s σ H x y v u Q I rx ry q => h pins s σ H x y v u Q I rx ry (w x y H Q q)
theorem car_of {X : Cx} {f : Value} {r r' : List V → Hp → VK → Prop} (h : CallR X f r) (w : ∀ x H Q, r' x H Q → r x H Q) : CallR X f r' :=
  fun pins s σ H x us Q I rx q => h pins s σ H x us Q I rx (w x H Q q)

def s2 (g : G2) (a b : SE) : SE := fun ρ => match a ρ with
  | some (x, ρ1) => match b ρ1 with
    | some (y, ρ2) => match g x y with
      | some d => some (d, ρ2)
      | none => none
    | none => none
  | none => none
def s1 (g : G1) (a : SE) : SE := fun ρ => match a ρ with
  | some (x, ρ1) => match g x with
    | some d => some (d, ρ1)
    | none => none
  | none => none
theorem s2_inv {g : G2} {a b : SE} {ρ : Rho} {d : D} {ρ' : Rho} (h : s2 g a b ρ = some (d, ρ')) : ∃ x ρ1 y, a ρ = some (x, ρ1) ∧ b ρ1 = some (y, ρ') ∧ g x y = some d := by
  unfold s2 at h
  split at h
  · split at h
    · split at h
      · cases h; exact ⟨_, _, _, by assumption, by assumption, by assumption⟩
      · cases h
    · cases h
  · cases h
theorem s1_inv {g : G1} {a : SE} {ρ : Rho} {d : D} {ρ' : Rho} (h : s1 g a ρ = some (d, ρ')) : ∃ x, a ρ = some (x, ρ') ∧ g x = some d := by
  unfold s1 at h
  split at h
  · split at h
    · cases h; exact ⟨_, by assumption, by assumption⟩
    · cases h
  · cases h
section
variable {c : Ctx} {X : Cx} {a b : Expr} {sa sb : SE} {pos : Pos}
/-- two operands, then an operation by values -/
theorem vt2 {g : G2} {σ : L2.St} {H : Hp} {Q : VK} (h : vt c (s2 g sa sb) σ H Q) : tOp (rD c.G g) (vt c sa) (vt c sb) σ H Q := by
  obtain ⟨F, ρ, I, d, ρ', e, q⟩ := h
  obtain ⟨x, ρ1, y, e1, e2, e3⟩ := s2_inv e
  refine ⟨F, ρ, I, x, ρ1, e1, fun v H1 F1 x1 I1 r1 => ⟨F1, ρ1, I1, y, ρ', e2, fun w H2 F2 x2 I2 r2 => ?_⟩⟩
  exact ⟨F2, x, y, d, I2.fh, r1.ext x2, r2, e3, fun v H' F' g r => q v H' F' ((x1.trans x2).trans g.f) (I2.grow g) r⟩
theorem ve_op {op : Operator} {g : G2} (ho : OpD c X (binaryOp op) g) (ha : PE X a (vt c sa)) (hb : PE X b (vt c sb)) : PE X (.BinOp a op b pos) (vt c (s2 g sa sb)) :=
  pe_of (pe_op ho ha hb) fun _ _ _ h => vt2 h
theorem ve_cmp {op : CmpOp} {g : G2} (ho : OpD c X (compareOp op) g) (ha : PE X a (vt c sa)) (hb : PE X b (vt c sb)) (hm : behindInMarks op b = false := by first | exact nomark _ | rfl) : PE X (.Compare a [op] [b] pos) (vt c (s2 g sa sb)) :=
  pe_of (pe_cmpR ho ha hb hm) fun _ _ _ h => vt2 h
/-- a value that is True or False, as a test -/
def sB (s : SE) : SB := fun ρ => match s ρ with
  | some (.bl b, ρ') => some (b, ρ')
  | _ => none
theorem sB_inv {s : SE} {ρ : Rho} {b : Bool} {ρ' : Rho} (h : sB s ρ = some (b, ρ')) : s ρ = some (.bl b, ρ') := by
  unfold sB at h
  split at h
  · cases h; assumption
  · cases h
theorem vb_test {t : TE} {s : SE} {σ : L2.St} {H : Hp} {Q : Bool → Hp → Prop} (w : ∀ Q, vt c s σ H Q → t σ H Q) (h : vb c (sB s) σ H Q) : t σ H fun x H' => ∃ k, x = .bl k ∧ Q k H' := by
  obtain ⟨F, ρ, I, b, ρ', e, q⟩ := h
  refine w _ ⟨F, ρ, I, .bl b, ρ', sB_inv e, fun v H' F' x I' r => ?_⟩
  cases r
  exact ⟨b, rfl, q H' F' x I'⟩
theorem vt_cmp {op : CmpOp} {g : G2} (ho : OpD c X (compareOp op) g) (ha : PE X a (vt c sa)) (hb : PE X b (vt c sb)) (hm : behindInMarks op b = false := by first | exact nomark _ | rfl) : PT X (.Compare a [op] [b] pos) (vb c (sB (s2 g sa sb))) :=
  pt_of (pt_cmpR ho ha hb hm) fun _ _ _ h => vb_test (fun _ => vt2) h
theorem vt_val {e : Expr} {s : SE} (h : PE X e (vt c s)) (he : ∀ whole, isTrue e X.env whole = (do let v ← whole; standAt e.pos; holding [v] (truthy v)) := by intro _; rfl) : PT X e (vb c (sB s)) :=
  pt_of (pt_val h he) fun _ _ _ h => vb_test (fun _ z => z) h
end

/-! ints -/
abbrev Bd (i : Int) : Prop := i.natAbs < 2 ^ 4000
theorem Bd.log {i : Int} (h : Bd i) : i.natAbs.log2 < 4000 := PySem.Flt.log2_lt_of (by decide) h
def gSub : G2
  | .int a, .int b => some (.int (a - b))
  | _, _ => none
def gMul : G2
  | .int a, .int b => if Bd a ∧ Bd b then some (.int (a * b)) else none
  | _, _ => none
def gFdiv : G2
  | .int a, .int b => if 0 < b ∧ Bd b then some (.int (a / b)) else none
  | _, _ => none
def gMod : G2
  | .int a, .int b => if 0 < b then some (.int (a % b)) else none
  | _, _ => none
def gPow : G2
  | .int a, .int b => if 0 ≤ b ∧ (Builtin.Int.intBits a : Int) * b ≤ 2 ^ 27 then some (.int (a ^ b.toNat)) else none
  | _, _ => none
def gCmp (p : Int → Int → Bool) : G2
  | .int a, .int b => some (.bl (p a b))
  | _, _ => none
def gLt : G2 := gCmp fun a b => decide (a < b)
def gLe : G2 := gCmp fun a b => decide (a ≤ b)
def gGt : G2 := gCmp fun a b => decide (b < a)
def gGe : G2 := gCmp fun a b => decide (b ≤ a)
def gNeg : G1
  | .int a => some (.int (-a))
  | _ => none
def gAdd : G2
  | .int a, .int b => some (.int (a + b))
  | .str a, .str b => if a.length + b.length ≤ LN then some (.str (a ++ b)) else none
  | .lst a, .lst b => if a.length + b.length ≤ LN then some (.lst (a ++ b)) else none
  | .tup a, .tup b => if a.length + b.length ≤ LN then some (.tup (a ++ b)) else none
  | _, _ => none
section
variable {c : Ctx} {X : Cx}
theorem od_sub : OpD c X (binaryOp .Sub) gSub := opr_of op_sub fun x y H Q ⟨F, a, b, d, e, ra, rb, hg, q⟩ => by
  unfold gSub at hg
  split at hg
  · cases hg; cases ra; cases rb; exact ⟨_, _, rfl, rfl, q.here e (.int _)⟩
  · cases hg
theorem od_mul : OpD c X (binaryOp .Mult) gMul := opr_of op_mulW fun x y H Q ⟨F, a, b, d, e, ra, rb, hg, q⟩ => by
  unfold gMul at hg
  split at hg
  · split at hg
    · rename_i h
      cases hg; cases ra; cases rb
      exact ⟨_, _, rfl, rfl, (by have h1 := h.1.log; have h2 := h.2.log; unfold CMulW; omega), q.here e (.int _)⟩
    · cases hg
  · cases hg
theorem od_fdiv : OpD c X (binaryOp .FloorDiv) gFdiv := opr_of op_fdivW fun x y H Q ⟨F, a, b, d, e, ra, rb, hg, q⟩ => by
  unfold gFdiv at hg
  split at hg
  · split at hg
    · rename_i h
      cases hg; cases ra; cases rb
      exact ⟨_, _, rfl, rfl, ⟨h.1, by have := h.2.log; omega⟩, q.here e (.int _)⟩
    · cases hg
  · cases hg
theorem od_mod : OpD c X (binaryOp .Mod) gMod := opr_of op_mod fun x y H Q ⟨F, a, b, d, e, ra, rb, hg, q⟩ => by
  unfold gMod at hg
  split at hg
  · split at hg
    · rename_i h
      cases hg; cases ra; cases rb
      exact ⟨_, _, rfl, rfl, h, q.here e (.int _)⟩
    · cases hg
  · cases hg
theorem od_pow : OpD c X (binaryOp .Pow) gPow := by
  intro pins s σ H x y v u Q I rx ry ⟨F, a, b, d, e, ra, rb, hg, q⟩
  unfold gPow at hg
  split at hg
  · split at hg
    · rename_i h
      cases hg; cases ra; cases rb
      obtain ⟨t, rfl⟩ := rx
      obtain ⟨t', rfl⟩ := ry
      exact pow_int h.1 h.2 ⟨.int _, H, I.tok _, ⟨_, rfl⟩, q.here e (.int _)⟩
    · cases hg
  · cases hg
theorem od_cmp {op : CmpOp} {p : Int → Int → Bool} (h : OpR X (compareOp op) (rI0 fun i j => .bl (p i j))) : OpD c X (compareOp op) (gCmp p) := opr_of h fun x y H Q ⟨F, a, b, d, e, ra, rb, hg, q⟩ => by
  unfold gCmp at hg
  split at hg
  · cases hg; cases ra; cases rb; exact ⟨_, _, rfl, rfl, q.here e (.bl _)⟩
  · cases hg
theorem od_lt : OpD c X (compareOp .Lt) gLt := od_cmp op_lt
theorem od_le : OpD c X (compareOp .LtE) gLe := od_cmp op_le
theorem od_gt : OpD c X (compareOp .Gt) gGt := od_cmp op_gt
theorem od_ge : OpD c X (compareOp .GtE) gGe := od_cmp op_ge
theorem od_add : OpD c X (binaryOp .Add) gAdd :=
  opr_of ((op_add.or op_add_str).or (op_cat.or op_catA)) fun x y H Q ⟨F, a, b, d, e, ra, rb, hg, q⟩ => by
  unfold gAdd at hg
  split at hg
  · cases hg; cases ra; cases rb; exact .inl (.inl ⟨_, _, rfl, rfl, q.here e (.int _)⟩)
  · split at hg
    · rename_i h
      cases hg; cases ra; cases rb; exact .inl (.inr ⟨_, _, rfl, rfl, ln_fit h, q.here e (.str _)⟩)
    · cases hg
  · split at hg
    · rename_i h
      cases hg
      cases ra with
      | lst h1 r1 =>
        cases rb with
        | lst h2 r2 =>
          refine .inr (.inl ⟨_, _, _, _, rfl, rfl, e _ _ h1, e _ _ h2, by rw [r1.length, r2.length]; exact ln_fit h, fun p hp => q.newL e (r1.append r2) p hp⟩)
    · cases hg
  · split at hg
    · rename_i h
      cases hg
      cases ra with
      | tup h1 r1 =>
        cases rb with
        | tup h2 r2 =>
          refine .inr (.inr ⟨_, _, _, _, rfl, rfl, .of (e _ _ h1), .of (e _ _ h2), by rw [r1.length, r2.length]; exact ln_fit h, fun z => ?_, fun _ z => ?_, fun _ _ p hp => q.newT e (r1.append r2) p hp⟩)
          · subst z; cases r1; exact q.here e (.tup h2 r2)
          · subst z; cases r2; rw [List.append_nil] at q; exact q.here e (.tup h1 r1)
    · cases hg
  · cases hg
end
end VS

set_option Elab.async false
set_option linter.all false
set_option maxRecDepth 100000
set_option maxHeartbeats 4000000
namespace VS
open PySem PySem.Spec PyProof.Rows L2

/-! == of data -/
mutual
def toP : D → Option PyData
  | .non => some .none
  | .bl b => some (.bool b)
  | .int i => some (.int i)
  | .str x => some (.str x)
  | .lst xs => match toPs xs with
    | some ys => some (.list ys)
    | none => none
  | .tup xs => match toPs xs with
    | some ys => some (.tuple ys)
    | none => none
  | _ => none
def toPs : List D → Option (List PyData)
  | [] => some []
  | d :: ds => match toP d, toPs ds with
    | some x, some xs => some (x :: xs)
    | _, _ => none
end
mutual
theorem Rep.dp {G : Gx} {F : Hp} {K : PySem.W.Frag} {H : Hp} (e : Ext F H) : ∀ {v : V} {d : D} {x : PyData}, Rep G F v d → toP d = some x → Dp K H v x
  | _, _, _, .non, h => by cases h; exact .non
  | _, _, _, .bl b, h => by cases h; exact .bl b
  | _, _, _, .int b, h => by cases h; exact .int b
  | _, _, _, .str b, h => by cases h; exact .str b
  | _, _, _, .adr a, h => by cases h
  | _, _, _, .scr _ _, h => by cases h
  | _, _, _, .ins _ _ _, h => by cases h
  | _, _, _, .lst h1 r, h => by
    unfold toP at h
    split at h
    · rename_i ys hy; cases h; exact .lst (.of (e _ _ h1)) (Reps.dp e r hy)
    · cases h
  | _, _, _, .tup h1 r, h => by
    unfold toP at h
    split at h
    · rename_i ys hy; cases h; exact .tup (.of (e _ _ h1)) (Reps.dp e r hy)
    · cases h
theorem Reps.dp {G : Gx} {F : Hp} {K : PySem.W.Frag} {H : Hp} (e : Ext F H) : ∀ {vs : List V} {ds : List D} {xs : List PyData}, Reps G F vs ds → toPs ds = some xs → DpAll K H vs xs
  | _, _, _, .nil, h => by unfold toPs at h; cases h; exact .nil
  | _, _, _, .cons h1 r, h => by
    unfold toPs at h
    split at h
    · rename_i y ys h2 h3; cases h; exact .cons (Rep.dp e h1 h2) (Reps.dp e r h3)
    · cases h
end
def scalE : D → D → Option Bool
  | .int a, .int b => some (decide (a = b))
  | .str a, .str b => some (decide (a = b))
  | .bl a, .bl b => some (decide (a = b))
  | .non, .non => some true
  | .non, .int _ => some false | .int _, .non => some false | .non, .bl _ => some false | .bl _, .non => some false
  | .non, .str _ => some false | .str _, .non => some false | .int _, .str _ => some false | .str _, .int _ => some false
  | _, _ => none
def eqD (a b : D) : Option Bool := match scalE a b with
  | some r => some r
  | none => match toP a, toP b with
    | some x, some y => if SeqAt.shaped x = true ∧ SeqAt.shaped y = true then some (PyData.eqv x y) else none
    | _, _ => none
def gEq : G2 := fun a b => (eqD a b).map .bl
def gNe : G2 := fun a b => (eqD a b).map fun r => .bl (!r)
theorem scal_of {G : Gx} {F : Hp} {x y : V} {a b : D} {r : Bool} (ra : Rep G F x a) (rb : Rep G F y b) (h : scalE a b = some r) : scal x y = true ∧ decide (x = y) = r := by
  unfold scalE at h
  split at h
  all_goals first
    | (cases h; cases ra; cases rb; exact ⟨rfl, by simp⟩)
    | cases h
section
variable {c : Ctx} {X : Cx}
theorem od_eq (hu : X.A.units + 64 < cLine) : OpD c X (compareOp .Eq) gEq := opr_of (op_eq.or (op_eqD hu)) fun x y H Q ⟨F, a, b, d, e, ra, rb, hg, q⟩ => by
  unfold gEq eqD at hg
  cases h : scalE a b with
  | some r =>
    rw [h] at hg; cases hg
    obtain ⟨h1, h2⟩ := scal_of ra rb h
    exact .inl ⟨h1, by rw [h2]; exact q.here e (.bl _)⟩
  | none =>
    rw [h] at hg
    dsimp only at hg
    split at hg
    · rename_i x' y' h1 h2
      split at hg
      · rename_i hs
        cases hg
        exact .inr ⟨x', y', ra.dp e h1, rb.dp e h2, hs.1, hs.2, q.here e (.bl _)⟩
      · cases hg
    · cases hg
theorem od_ne (hu : X.A.units + 64 < cLine) : OpD c X (compareOp .NotEq) gNe := opr_of (op_ne.or (op_neD hu)) fun x y H Q ⟨F, a, b, d, e, ra, rb, hg, q⟩ => by
  unfold gNe eqD at hg
  cases h : scalE a b with
  | some r =>
    rw [h] at hg; cases hg
    obtain ⟨h1, h2⟩ := scal_of ra rb h
    exact .inl ⟨h1, by rw [h2]; exact q.here e (.bl _)⟩
  | none =>
    rw [h] at hg
    dsimp only at hg
    split at hg
    · rename_i x' y' h1 h2
      split at hg
      · rename_i hs
        cases hg
        exact .inr ⟨x', y', ra.dp e h1, rb.dp e h2, hs.1, hs.2, q.here e (.bl _)⟩
      · cases hg
    · cases hg
end

/-! in -/
def flatD : D → Bool
  | .non => true | .bl _ => true | .int _ => true | .str _ => true | _ => false
def eqF : D → D → Bool
  | .non, .non => true
  | .bl a, .bl b => a == b
  | .bl a, .int b => (if a then 1 else 0) == b
  | .int a, .bl b => a == (if b then 1 else 0)
  | .int a, .int b => a == b
  | .str a, .str b => a == b
  | _, _ => false
theorem flat_of {G : Gx} {F : Hp} {x : V} {a : D} (ra : Rep G F x a) (h : flatD a = true) : flatV x = true := by
  cases ra <;> first | rfl | cases h
theorem eqF_of {G : Gx} {F : Hp} {x y : V} {a b : D} (ra : Rep G F x a) (rb : Rep G F y b) (h : flatD a = true) (h' : flatD b = true) : eqV x y = eqF a b := by
  cases ra <;> first | (cases rb <;> first | rfl | cases h') | cases h
theorem flats_of {G : Gx} {F : Hp} : ∀ {xs : List V} {as : List D}, Reps G F xs as → as.all flatD = true → xs.all flatV = true
  | _, _, .nil, _ => rfl
  | _, _, .cons h r, e => by
    simp only [List.all_cons, Bool.and_eq_true] at e ⊢
    exact ⟨flat_of h e.1, flats_of r e.2⟩
theorem anyF_of {G : Gx} {F : Hp} {y : V} {b : D} (rb : Rep G F y b) (hb : flatD b = true) : ∀ {xs : List V} {as : List D}, Reps G F xs as → as.all flatD = true → (xs.any fun x => eqV x y) = as.any fun a => eqF a b
  | _, _, .nil, _ => rfl
  | _, _, .cons h r, e => by
    simp only [List.all_cons, Bool.and_eq_true] at e
    simp only [List.any_cons]
    rw [eqF_of h rb e.1 hb, anyF_of rb hb r e.2]
def inD (a : D) (xs : List D) : Option Bool := if flatD a = true ∧ xs.all flatD = true then some (xs.any fun x => eqF x a) else none
def inB : D → D → Option Bool
  | a, .lst xs => inD a xs
  | a, .tup xs => inD a xs
  | .str ⟨⟨[k]⟩⟩, .str z => some (decide (k ∈ z.cps.toList))
  | _, _ => none
def gIn : G2 := fun a b => (inB a b).map .bl
def gNotIn : G2 := fun a b => (inB a b).map fun r => .bl (!r)
theorem in_of {G : Gx} {F H : Hp} {K : PySem.W.Frag} {x y : V} {a b : D} {r : Bool} (e : Ext F H) (ra : Rep G F x a) (rb : Rep G F y b) (h : inB a b = some r) :
    (∃ p xs, y = .ref p ∧ (SqL K H p xs ∨ SqT K H p xs) ∧ flatV x = true ∧ xs.all flatV = true ∧ inV x xs = r) ∨ (∃ (k : Nat) (z : Str), x = .str ⟨#[k]⟩ ∧ y = .str z ∧ decide (k ∈ z.cps.toList) = r) := by
  have core : ∀ {ds : List D} {vs : List V}, Reps G F vs ds → inD a ds = some r → flatV x = true ∧ vs.all flatV = true ∧ inV x vs = r := fun {ds vs} rs h => by
    unfold inD at h
    split at h
    · rename_i h1
      cases h
      exact ⟨flat_of ra h1.1, flats_of rs h1.2, anyF_of ra h1.1 rs h1.2⟩
    · cases h
  unfold inB at h
  split at h
  · cases rb with
    | lst h1 rs => exact .inl ⟨_, _, rfl, .inl (.of (e _ _ h1)), core rs h⟩
  · cases rb with
    | tup h1 rs => exact .inl ⟨_, _, rfl, .inr (.of (e _ _ h1)), core rs h⟩
  · cases h; cases ra; cases rb; exact .inr ⟨_, _, rfl, rfl, rfl⟩
  · cases h
section
variable {c : Ctx} {X : Cx}
theorem od_in : OpD c X (compareOp .In) gIn := opr_of (op_in_seq.or op_in_sign) fun x y H Q ⟨F, a, b, d, e, ra, rb, hg, q⟩ => by
  unfold gIn at hg
  cases h : inB a b with
  | none => rw [h] at hg; cases hg
  | some r =>
    rw [h] at hg; cases hg
    rcases in_of (K := X.K) e ra rb h with ⟨p, xs, h1, h2, h3, h4, h5⟩ | ⟨k, z, h1, h2, h3⟩
    · exact .inl ⟨p, xs, h1, h2, h3, h4, by subst h5; exact q.here e (.bl _)⟩
    · exact .inr ⟨k, z, h1, h2, by rw [h3]; exact q.here e (.bl _)⟩
theorem od_notin : OpD c X (compareOp .NotIn) gNotIn := opr_of (op_notIn_seq.or op_notIn_sign) fun x y H Q ⟨F, a, b, d, e, ra, rb, hg, q⟩ => by
  unfold gNotIn at hg
  cases h : inB a b with
  | none => rw [h] at hg; cases hg
  | some r =>
    rw [h] at hg; cases hg
    rcases in_of (K := X.K) e ra rb h with ⟨p, xs, h1, h2, h3, h4, h5⟩ | ⟨k, z, h1, h2, h3⟩
    · exact .inl ⟨p, xs, h1, h2, h3, h4, by subst h5; exact q.here e (.bl _)⟩
    · exact .inr ⟨k, z, h1, h2, by rw [h3]; exact q.here e (.bl _)⟩
/-- is None -/
def isN : D → Bool
  | .non => true
  | _ => false
def gIsN : G1 := fun a => some (.bl (isN a))
theorem isN_of {G : Gx} {F : Hp} {x : V} {a : D} (r : Rep G F x a) : decide (x = V.non) = isN a := by cases r <;> simp [isN]
theorem ve_isN {a : Expr} {sa : SE} {j pos pos'} (ha : PE X a (vt c sa)) : PE X (.Compare a [.Is] [.Constant .none j pos'] pos) (vt c (s1 gIsN sa)) := by
  refine pe_of (pe_cmp (pc_isN ha) rfl) fun σ H Q ⟨F, ρ, I, d, ρ', e, q⟩ => ?_
  obtain ⟨x, e1, e2⟩ := s1_inv e
  cases e2
  exact ⟨F, ρ, I, x, ρ', e1, fun v H1 F1 x1 I1 r1 => by show Q (.bl (decide (v = V.non))) H1; rw [isN_of r1]; exact q _ _ _ x1 I1 (.bl _)⟩
theorem vt_isN {a : Expr} {sa : SE} {j pos pos'} (ha : PE X a (vt c sa)) : PT X (.Compare a [.Is] [.Constant .none j pos'] pos) (vb c (sB (s1 gIsN sa))) := by
  refine pt_of (pt_cmp (pc_isN ha) rfl) fun σ H Q h => ?_
  obtain ⟨F, ρ, I, b, ρ', e, q⟩ := h
  obtain ⟨x, e1, e2⟩ := s1_inv (sB_inv e)
  cases e2
  exact ⟨F, ρ, I, x, ρ', e1, fun v H1 F1 x1 I1 r1 => ⟨_, rfl, by rw [isN_of r1]; exact q _ _ x1 I1⟩⟩
/-- a op1 b op2 c -/
def sCh (g g' : G2) (a b d : SE) : SE := fun ρ => match a ρ with
  | some (x, ρ1) => match b ρ1 with
    | some (y, ρ2) => match g x y with
      | some (.bl true) => match d ρ2 with
        | some (z, ρ3) => match g' y z with
          | some r => some (r, ρ3)
          | none => none
        | none => none
      | some (.bl false) => some (.bl false, ρ2)
      | _ => none
    | none => none
  | none => none
theorem chain_w {sa sb sd : SE} {g g' : G2} (σ : L2.St) (H : Hp) (Q : VK) (h : vt c (sCh g g' sa sb sd) σ H Q) : tChain (rD c.G g) (rD c.G g') (vt c sa) (vt c sb) (vt c sd) σ H Q := by
  obtain ⟨F, ρ, I, d, ρ', e, q⟩ := h
  unfold sCh at e
  split at e
  · rename_i x ρ1 e1
    split at e
    · rename_i y ρ2 e2
      refine ⟨F, ρ, I, x, ρ1, e1, fun v H1 F1 x1 I1 r1 => ⟨F1, ρ1, I1, y, ρ2, e2, fun w H2 F2 x2 I2 r2 => ?_⟩⟩
      split at e
      · rename_i e3
        split at e
        · rename_i z ρ3 e4
          split at e
          · rename_i r e5
            cases e
            refine ⟨F2, x, y, _, I2.fh, r1.ext x2, r2, e3, fun v3 H3 F3 g3 r3 => ?_⟩
            cases r3
            refine ⟨true, rfl, iteT ⟨F3, ρ2, I2.grow g3, z, ρ', e4, fun w4 H4 F4 x4 I4 r4 => ?_⟩⟩
            exact ⟨F4, y, z, _, I4.fh, (r2.ext g3.f).ext x4, r4, e5, fun v5 H5 F5 g5 r5 => q _ _ _ (((x1.trans x2).trans g3.f).trans (x4.trans g5.f)) (I4.grow g5) r5⟩
          · cases e
        · cases e
      · rename_i e3
        cases e
        refine ⟨F2, x, y, _, I2.fh, r1.ext x2, r2, e3, fun v3 H3 F3 g3 r3 => ?_⟩
        cases r3
        exact ⟨false, rfl, iteF (q _ _ _ ((x1.trans x2).trans g3.f) (I2.grow g3) (.bl _))⟩
      · cases e
    · cases e
  · cases e
theorem ve_chain {op op' : CmpOp} {g g' : G2} {a b d : Expr} {sa sb sd : SE} {pos} (ho : OpD c X (compareOp op) g) (ho' : OpD c X (compareOp op') g') (ha : PE X a (vt c sa)) (hb : PE X b (vt c sb)) (hd : PE X d (vt c sd))
    (hm : lastMarks [op, op'] [b, d] = false := by with_unfolding_all rfl) : PE X (.Compare a [op, op'] [b, d] pos) (vt c (sCh g g' sa sb sd)) := pe_of (pe_chain ho ho' ha hb hd hm) chain_w
theorem vt_chain {op op' : CmpOp} {g g' : G2} {a b d : Expr} {sa sb sd : SE} {pos} (ho : OpD c X (compareOp op) g) (ho' : OpD c X (compareOp op') g') (ha : PE X a (vt c sa)) (hb : PE X b (vt c sb)) (hd : PE X d (vt c sd))
    (hm : lastMarks [op, op'] [b, d] = false := by with_unfolding_all rfl) : PT X (.Compare a [op, op'] [b, d] pos) (vb c (sB (sCh g g' sa sb sd))) :=
  pt_of (pt_chain ho ho' ha hb hd hm) fun _ _ _ h => vb_test (chain_w _ _) h

/-! and, or, not -/
def bAnd (a b : SB) : SB := fun ρ => match a ρ with
  | some (true, ρ1) => b ρ1
  | some (false, ρ1) => some (false, ρ1)
  | none => none
def bOr (a b : SB) : SB := fun ρ => match a ρ with
  | some (true, ρ1) => some (true, ρ1)
  | some (false, ρ1) => b ρ1
  | none => none
def bNot (a : SB) : SB := fun ρ => match a ρ with
  | some (b, ρ1) => some (!b, ρ1)
  | none => none
theorem vb_mono {s : SB} {σ : L2.St} {H : Hp} {Q Q' : Bool → Hp → Prop} (h : vb c s σ H Q) (w : ∀ b H, Q b H → Q' b H) : vb c s σ H Q' := by
  obtain ⟨F, ρ, I, b, ρ', e, q⟩ := h
  exact ⟨F, ρ, I, b, ρ', e, fun H' F' x I' => w _ _ (q H' F' x I')⟩
theorem and_w {sa sb : SB} (σ : L2.St) (H : Hp) (Q : Bool → Hp → Prop) (h : vb c (bAnd sa sb) σ H Q) : tAnd (vb c sa) (vb c sb) σ H Q := by
  obtain ⟨F, ρ, I, b, ρ', e, q⟩ := h
  unfold bAnd at e
  split at e
  · rename_i ρ1 e1
    exact ⟨F, ρ, I, true, ρ1, e1, fun H1 F1 x1 I1 => iteT ⟨F1, ρ1, I1, b, ρ', e, fun H2 F2 x2 I2 => q _ _ (x1.trans x2) I2⟩⟩
  · rename_i ρ1 e1
    cases e
    exact ⟨F, ρ, I, false, ρ', e1, fun H1 F1 x1 I1 => iteF (q _ _ x1 I1)⟩
  · cases e
theorem or_w {sa sb : SB} (σ : L2.St) (H : Hp) (Q : Bool → Hp → Prop) (h : vb c (bOr sa sb) σ H Q) : tOr (vb c sa) (vb c sb) σ H Q := by
  obtain ⟨F, ρ, I, b, ρ', e, q⟩ := h
  unfold bOr at e
  split at e
  · rename_i ρ1 e1
    cases e
    exact ⟨F, ρ, I, true, ρ', e1, fun H1 F1 x1 I1 => iteT (q _ _ x1 I1)⟩
  · rename_i ρ1 e1
    exact ⟨F, ρ, I, false, ρ1, e1, fun H1 F1 x1 I1 => iteF ⟨F1, ρ1, I1, b, ρ', e, fun H2 F2 x2 I2 => q _ _ (x1.trans x2) I2⟩⟩
  · cases e
theorem vw_and {a b : Expr} {rest : List Expr} {pos} {sa sb : SB} (ha : PT X a (vb c sa)) (hb : PW X (.BoolOp .And (b :: rest) pos) (vb c sb)) : PW X (.BoolOp .And (a :: b :: rest) pos) (vb c (bAnd sa sb)) :=
  ⟨fun wh pins s σ H Q I q => (pw_and ha hb).run wh pins s σ H Q I (and_w σ H Q q)⟩
theorem vw_or {a b : Expr} {rest : List Expr} {pos} {sa sb : SB} (ha : PT X a (vb c sa)) (hb : PW X (.BoolOp .Or (b :: rest) pos) (vb c sb)) : PW X (.BoolOp .Or (a :: b :: rest) pos) (vb c (bOr sa sb)) :=
  ⟨fun wh pins s σ H Q I q => (pw_or ha hb).run wh pins s σ H Q I (or_w σ H Q q)⟩
theorem vt_not {a : Expr} {pos} {sa : SB} (ha : PT X a (vb c sa)) : PT X (.UnaryOp .Not a pos) (vb c (bNot sa)) := by
  refine pt_of (pt_not ha) fun σ H Q ⟨F, ρ, I, b, ρ', e, q⟩ => ?_
  unfold bNot at e
  split at e
  · rename_i b' ρ1 e1
    cases e
    exact ⟨F, ρ, I, b', ρ', e1, q⟩
  · cases e
/-- as values -/
def sAnd (a b : SE) : SE := fun ρ => match a ρ with
  | some (.bl true, ρ1) => b ρ1
  | some (.bl false, ρ1) => some (.bl false, ρ1)
  | _ => none
def sOr (a b : SE) : SE := fun ρ => match a ρ with
  | some (.bl true, ρ1) => some (.bl true, ρ1)
  | some (.bl false, ρ1) => b ρ1
  | _ => none
def gNot : G1
  | .bl b => some (.bl (!b))
  | _ => none
theorem ve_and {a b : Expr} {rest : List Expr} {pos} {sa sb : SE} (ha : PE X a (vt c sa)) (hb : PE X (.BoolOp .And (b :: rest) pos) (vt c sb)) : PE X (.BoolOp .And (a :: b :: rest) pos) (vt c (sAnd sa sb)) := by
  refine pe_of (pe_and ha hb) fun σ H Q ⟨F, ρ, I, d, ρ', e, q⟩ => ?_
  unfold sAnd at e
  split at e
  · rename_i ρ1 e1
    exact ⟨F, ρ, I, _, ρ1, e1, fun v H1 F1 x1 I1 r1 => by cases r1; exact ⟨true, rfl, iteT ⟨F1, ρ1, I1, d, ρ', e, fun v H2 F2 x2 I2 r2 => q _ _ _ (x1.trans x2) I2 r2⟩⟩⟩
  · rename_i ρ1 e1
    cases e
    exact ⟨F, ρ, I, _, ρ', e1, fun v H1 F1 x1 I1 r1 => by cases r1; exact ⟨false, rfl, iteF (q _ _ _ x1 I1 (.bl _))⟩⟩
  · cases e
theorem ve_or {a b : Expr} {rest : List Expr} {pos} {sa sb : SE} (ha : PE X a (vt c sa)) (hb : PE X (.BoolOp .Or (b :: rest) pos) (vt c sb)) : PE X (.BoolOp .Or (a :: b :: rest) pos) (vt c (sOr sa sb)) := by
  refine pe_of (pe_or ha hb) fun σ H Q ⟨F, ρ, I, d, ρ', e, q⟩ => ?_
  unfold sOr at e
  split at e
  · rename_i ρ1 e1
    cases e
    exact ⟨F, ρ, I, _, ρ', e1, fun v H1 F1 x1 I1 r1 => by cases r1; exact ⟨true, rfl, iteT (q _ _ _ x1 I1 (.bl _))⟩⟩
  · rename_i ρ1 e1
    exact ⟨F, ρ, I, _, ρ1, e1, fun v H1 F1 x1 I1 r1 => by cases r1; exact ⟨false, rfl, iteF ⟨F1, ρ1, I1, d, ρ', e, fun v H2 F2 x2 I2 r2 => q _ _ _ (x1.trans x2) I2 r2⟩⟩⟩
  · cases e
theorem ve_one {a : Expr} {op} {pos} {sa : SE} (ha : PE X a (vt c sa)) : PE X (.BoolOp op [a] pos) (vt c sa) := pe_one ha
theorem ve_not {a : Expr} {pos} {sa : SE} (ha : PE X a (vt c sa)) : PE X (.UnaryOp .Not a pos) (vt c (s1 gNot sa)) := by
  refine pe_of (pe_not ha) fun σ H Q ⟨F, ρ, I, d, ρ', e, q⟩ => ?_
  obtain ⟨x, e1, e2⟩ := s1_inv e
  unfold gNot at e2
  split at e2
  · cases e2
    exact ⟨F, ρ, I, _, ρ', e1, fun v H1 F1 x1 I1 r1 => by cases r1; exact ⟨_, rfl, q _ _ _ x1 I1 (.bl _)⟩⟩
  · cases e2
theorem ve_neg {a : Expr} {pos} {sa : SE} (ha : PE X a (vt c sa)) : PE X (.UnaryOp .USub a pos) (vt c (s1 gNeg sa)) := by
  refine pe_of (pe_un un_neg ha) fun σ H Q ⟨F, ρ, I, d, ρ', e, q⟩ => ?_
  obtain ⟨x, e1, e2⟩ := s1_inv e
  unfold gNeg at e2
  split at e2
  · cases e2
    exact ⟨F, ρ, I, _, ρ', e1, fun v H1 F1 x1 I1 r1 => by cases r1; exact ⟨_, rfl, q _ _ _ x1 I1 (.int _)⟩⟩
  · cases e2
end
end VS

set_option Elab.async false
set_option linter.all false
set_option maxRecDepth 100000
set_option maxHeartbeats 4000000
namespace VS
open PySem PySem.Spec PyProof.Rows L2

/-! argument lists -/
abbrev SA := Rho → Option (List D × Rho)
def va (c : Ctx) (s : SA) : TA := fun σ H Q => ∃ F ρ, Ok c F H σ ρ ∧ ∃ ds ρ', s ρ = some (ds, ρ') ∧ ∀ vs H' F', Ext F F' → Ok c F' H' σ ρ' → Reps c.G F' vs ds → Q vs H'
def aN : SA := fun ρ => some ([], ρ)
def aC (a : SE) (r : SA) : SA := fun ρ => match a ρ with
  | some (x, ρ1) => match r ρ1 with
    | some (xs, ρ2) => some (x :: xs, ρ2)
    | none => none
  | none => none
section
variable {c : Ctx} {X : Cx}
theorem va_nil : PA X [] (va c aN) := pa_of pa_nil fun σ H Q ⟨F, ρ, I, ds, ρ', e, q⟩ => by cases e; exact q [] H F Ext.rfl' I .nil
theorem va_cons {e : Expr} {es : List Expr} {a : SE} {r : SA} (ha : PE X e (vt c a)) (hr : PA X es (va c r)) (hs : starEach (e :: es) X.env = (false, eval e X.env) :: starEach es X.env := by rfl) : PA X (e :: es) (va c (aC a r)) :=
  pa_of (pa_cons ha hr hs) fun σ H Q ⟨F, ρ, I, ds, ρ', e, q⟩ => by
    unfold aC at e
    split at e
    · rename_i x ρ1 e1
      split at e
      · rename_i xs ρ2 e2
        cases e
        exact ⟨F, ρ, I, x, ρ1, e1, fun v H1 F1 x1 I1 r1 => ⟨F1, ρ1, I1, xs, ρ', e2, fun vs H2 F2 x2 I2 r2 => q _ _ _ (x1.trans x2) I2 (.cons (r1.ext x2) r2)⟩⟩
      · cases e
    · cases e
/-- what becomes of the arguments -/
def sL (g : GL) (a : SA) : SE := fun ρ => match a ρ with
  | some (xs, ρ1) => match g xs with
    | some d => some (d, ρ1)
    | none => none
  | none => none
theorem sL_inv {g : GL} {a : SA} {ρ : Rho} {d : D} {ρ' : Rho} (h : sL g a ρ = some (d, ρ')) : ∃ xs, a ρ = some (xs, ρ') ∧ g xs = some d := by
  unfold sL at h
  split at h
  · split at h
    · cases h; exact ⟨_, by assumption, by assumption⟩
    · cases h
  · cases h
theorem vtL {g : GL} {sa : SA} {σ : L2.St} {H : Hp} {Q : VK} (h : vt c (sL g sa) σ H Q) : va c sa σ H fun xs H1 => rL c.G g xs H1 Q := by
  obtain ⟨F, ρ, I, d, ρ', e, q⟩ := h
  obtain ⟨xs, e1, e2⟩ := sL_inv e
  exact ⟨F, ρ, I, xs, ρ', e1, fun vs H1 F1 x1 I1 r1 => ⟨F1, xs, d, I1.fh, r1, e2, fun v H' F' g r => q v H' F' (x1.trans g.f) (I1.grow g) r⟩⟩
def gTup : GL := fun xs => if xs.length ≤ LN then some (.tup xs) else none
def gLst : GL := fun xs => if xs.length ≤ LN then some (.lst xs) else none
theorem ve_tup {es : List Expr} {k pos} {sa : SA} (h : PA X es (va c sa)) : PE X (.Tuple es k pos) (vt c (sL gTup sa)) :=
  pe_of (pe_tup h) fun σ H Q q => by
    obtain ⟨F, ρ, I, ds, ρ', e, q⟩ := vtL q
    refine ⟨F, ρ, I, ds, ρ', e, fun vs H' F' x I' r => ?_⟩
    obtain ⟨F1, es, d, e1, r1, hg, q1⟩ := q vs H' F' x I' r
    unfold gTup at hg
    split at hg
    · rename_i hz
      cases hg
      exact ⟨by rw [r1.length]; exact ln_fit hz, fun p hp => q1.newT e1 r1 p hp⟩
    · cases hg
theorem ve_lst {es : List Expr} {pos} {sa : SA} (h : PA X es (va c sa)) : PE X (.List es pos) (vt c (sL gLst sa)) :=
  pe_of (pe_lst h) fun σ H Q q => by
    obtain ⟨F, ρ, I, ds, ρ', e, q⟩ := vtL q
    refine ⟨F, ρ, I, ds, ρ', e, fun vs H' F' x I' r => ?_⟩
    obtain ⟨F1, es, d, e1, r1, hg, q1⟩ := q vs H' F' x I' r
    unfold gLst at hg
    split at hg
    · rename_i hz
      cases hg
      exact ⟨by rw [r1.length]; exact ln_fit hz, fun p hp => q1.newL e1 r1 p hp⟩
    · cases hg
/-- a built-in function, a built-in class, by its name -/
theorem ve_callB {id : String} {g : GL} {x : Str} {p pos : Pos} {e : Expr} {es : List Expr} {sa : SA} (hc : CaD c X (.builtin id) g) (hm : X.mg x = none) (hv : bootBuiltins x = some (.builtin id)) (ha : PA X (e :: es) (va c sa)) (hg : Gl X x := by rfl)
    (hn : x ≠ "__name__" := by decide) (hdb : (x == ("__debug__" : Str)) = false := by decide)
    (he : starEach (e :: es) X.env = (false, eval e X.env) :: starEach es X.env := by rfl) (hpl : (backTo pos (starEach es X.env)).any (·.1) = false := by rfl) : PE X (.Call (.Name x p) (e :: es) [] pos) (vt c (sL g sa)) :=
  pe_of (pe_callB hc hg hm hv ha hn hdb he hpl) fun _ _ _ q => vtL q
theorem ve_callT {T : String} {g : GL} {x : Str} {p pos : Pos} {e : Expr} {es : List Expr} {sa : SA} (hc : CaD c X (.type T) g) (hm : X.mg x = none) (hv : bootBuiltins x = some (.type T)) (ha : PA X (e :: es) (va c sa)) (hg : Gl X x := by rfl)
    (hn : x ≠ "__name__" := by decide) (hdb : (x == ("__debug__" : Str)) = false := by decide)
    (he : starEach (e :: es) X.env = (false, eval e X.env) :: starEach es X.env := by rfl) (hpl : (backTo pos (starEach es X.env)).any (·.1) = false := by rfl) : PE X (.Call (.Name x p) (e :: es) [] pos) (vt c (sL g sa)) :=
  pe_of (pe_callTy hc hg hm hv ha hn hdb he hpl) fun _ _ _ q => vtL q
end

/-! the built-ins -/
def gLen : GL
  | [.str x] => if x.length ≤ LN then some (.int x.length) else none
  | [.lst xs] => some (.int xs.length)
  | [.tup xs] => some (.int xs.length)
  | [.scr xs] => some (.int xs.length)
  | _ => none
def gInt : GL
  | [.int i] => some (.int i)
  | [.bl k] => some (.int (if k then 1 else 0))
  | _ => none
def gAbs : GL
  | [.int i] => some (.int (if i < 0 then -i else i))
  | _ => none
def toIs : List D → Option (List Int)
  | [] => some []
  | .int i :: r => match toIs r with
    | some is => some (i :: is)
    | none => none
  | _ => none
def strs' : List D → Option (List Str)
  | [] => some []
  | .str i :: r => match strs' r with
    | some is => some (i :: is)
    | none => none
  | _ => none
def imax : List Int → Int
  | [] => 0
  | [a] => a
  | a :: r => max a (imax r)
def imin : List Int → Int
  | [] => 0
  | [a] => a
  | a :: r => min a (imin r)
def isort (l : List Int) : List Int := l.mergeSort fun a b => decide (a ≤ b)
def gMax : GL
  | [.int i, .int j] => some (.int (if j > i then j else i))
  | [.lst xs] => match toIs xs with
    | some (i :: r) => some (.int (imax (i :: r)))
    | _ => none
  | _ => none
def gMin : GL
  | [.int i, .int j] => some (.int (if j < i then j else i))
  | [.lst xs] => match toIs xs with
    | some (i :: r) => some (.int (imin (i :: r)))
    | _ => none
  | _ => none
def gSum : GL
  | [.lst xs] => match toIs xs with
    | some is => some (.int is.sum)
    | _ => none
  | _ => none
def gSorted : GL
  | [.lst xs] => match toIs xs with
    | some is => some (.lst ((isort is).map .int))
    | _ => none
  | _ => none
def gStr : GL
  | [.str x] => some (.str x)
  | _ => none
def gList : GL
  | [.lst xs] => some (.lst xs)
  | [.tup xs] => some (.lst xs)
  | _ => none
def gTuple : GL
  | [.lst xs] => some (.tup xs)
  | [.tup xs] => some (.tup xs)
  | _ => none
theorem ints_reps {G : Gx} {F : Hp} : ∀ {vs : List V} {ds : List D} {is : List Int}, Reps G F vs ds → toIs ds = some is → vs = is.map V.int
  | _, _, _, .nil, h => by unfold toIs at h; cases h; rfl
  | _, _, _, .cons h1 r, h => by
    unfold toIs at h
    split at h
    · rename_i hq; exact absurd hq (by simp)
    · split at h
      · rename_i he _ js hj
        cases h; injection he with e1 e2; subst e1 e2; cases h1; rw [ints_reps r hj]; rfl
      · cases h
    · cases h
theorem reps_ints {G : Gx} {F : Hp} : ∀ is : List Int, Reps G F (is.map V.int) (is.map D.int)
  | [] => .nil
  | i :: r => .cons (.int i) (reps_ints r)
theorem imax_mem : ∀ (i : Int) (r : List Int), imax (i :: r) ∈ i :: r
  | i, [] => by simp [imax]
  | i, j :: r => by
    have := imax_mem j r
    unfold imax
    by_cases h : imax (j :: r) ≤ i
    · rw [Int.max_eq_left h]; exact List.mem_cons_self
    · rw [Int.max_eq_right (by omega)]; exact List.mem_cons_of_mem _ this
theorem imax_le : ∀ (i : Int) (r : List Int) (y : Int), y ∈ i :: r → y ≤ imax (i :: r)
  | i, [], y, h => by simp at h; subst h; simp [imax]
  | i, j :: r, y, h => by
    unfold imax
    rcases List.mem_cons.mp h with h | h
    · subst h; exact Int.le_max_left _ _
    · exact Int.le_trans (imax_le j r y h) (Int.le_max_right _ _)
theorem imin_mem : ∀ (i : Int) (r : List Int), imin (i :: r) ∈ i :: r
  | i, [] => by simp [imin]
  | i, j :: r => by
    have := imin_mem j r
    unfold imin
    by_cases h : i ≤ imin (j :: r)
    · rw [Int.min_eq_left h]; exact List.mem_cons_self
    · rw [Int.min_eq_right (by omega)]; exact List.mem_cons_of_mem _ this
theorem imin_le : ∀ (i : Int) (r : List Int) (y : Int), y ∈ i :: r → imin (i :: r) ≤ y
  | i, [], y, h => by simp at h; subst h; simp [imin]
  | i, j :: r, y, h => by
    unfold imin
    rcases List.mem_cons.mp h with h | h
    · subst h; exact Int.min_le_left _ _
    · exact Int.le_trans (Int.min_le_right _ _) (imin_le j r y h)
theorem isort_perm (l : List Int) : (isort l).Perm l := List.mergeSort_perm _ _
theorem isort_sorted (l : List Int) : (isort l).Pairwise (· ≤ ·) := by
  have := List.pairwise_mergeSort (le := fun a b : Int => decide (a ≤ b)) (fun a b c h1 h2 => by simp at *; omega) (fun a b => by simp; omega) l
  exact this.imp fun h => by simpa using h
theorem isort_uniq {l k : List Int} (h : k.Perm l) (s : k.Pairwise (· ≤ ·)) : k = isort l :=
  List.Perm.eq_of_pairwise (fun _ _ _ _ h1 h2 => Int.le_antisymm h1 h2) s (isort_sorted l) (h.trans (isort_perm l).symm)
section
variable {c : Ctx} {X : Cx}
theorem ca_len (hK : X.K = c.G.K) : CaD c X (.builtin "len") gLen := car_of call_len fun xs H Q ⟨F, ds, d, e, r, hg, q⟩ => by
  unfold gLen at hg
  split at hg
  · split at hg
    · rename_i h
      cases hg
      cases r with
      | cons r1 r2 => cases r2; cases r1; exact ⟨_, _, rfl, ⟨ln_fit h, rfl⟩, q.here e (.int _)⟩
    · cases hg
  · cases hg
    cases r with
    | cons r1 r2 =>
      cases r2
      cases r1 with
      | lst h1 rs => exact ⟨_, _, rfl, .inl ⟨_, .of (e _ _ h1), rfl⟩, by rw [rs.length]; exact q.here e (.int _)⟩
  · cases hg
    cases r with
    | cons r1 r2 =>
      cases r2
      cases r1 with
      | tup h1 rs => exact ⟨_, _, rfl, .inr ⟨_, .of (e _ _ h1), rfl⟩, by rw [rs.length]; exact q.here e (.int _)⟩
  · cases hg
    cases r with
    | cons r1 r2 =>
      cases r2
      cases r1 with
      | scr h1 rs => exact ⟨_, _, rfl, .inl ⟨_, hK ▸ h1.ext e, rfl⟩, by rw [rs.length]; exact q.here e (.int _)⟩
  · cases hg
theorem ca_int : CaD c X (.type "int") gInt := car_of call_int1 fun xs H Q ⟨F, ds, d, e, r, hg, q⟩ => by
  unfold gInt at hg
  split at hg
  · cases hg
    cases r with
    | cons r1 r2 => cases r2; cases r1; exact .inl ⟨_, rfl, q.here e (.int _)⟩
  · cases hg
    cases r with
    | cons r1 r2 => cases r2; cases r1; exact .inr ⟨_, rfl, q.here e (.int _)⟩
  · cases hg
theorem ca_abs : CaD c X (.builtin "abs") gAbs := car_of call_abs fun xs H Q ⟨F, ds, d, e, r, hg, q⟩ => by
  unfold gAbs at hg
  split at hg
  · cases hg
    cases r with
    | cons r1 r2 => cases r2; cases r1; exact ⟨_, rfl, q.here e (.int _)⟩
  · cases hg
theorem lst1 {F H : Hp} {xs : List V} {ds : List D} (e : Ext F H) (r : Reps c.G F xs [.lst ds]) : ∃ a vs, xs = [.ref a] ∧ H a = some (.lst vs) ∧ Reps c.G F vs ds := by
  cases r with
  | cons r1 r2 =>
    cases r2
    cases r1 with
    | lst h1 rs => exact ⟨_, _, rfl, e _ _ h1, rs⟩
theorem tup1 {F H : Hp} {xs : List V} {ds : List D} (e : Ext F H) (r : Reps c.G F xs [.tup ds]) : ∃ a vs, xs = [.ref a] ∧ F a = some (.tup vs) ∧ H a = some (.tup vs) ∧ Reps c.G F vs ds := by
  cases r with
  | cons r1 r2 =>
    cases r2
    cases r1 with
    | tup h1 rs => exact ⟨_, _, rfl, h1, e _ _ h1, rs⟩
theorem ca_max (hc : X.calm = true) : CaD c X (.builtin "max") gMax := car_of ((call_max2 hc).or (cr_max hc)) fun xs H Q ⟨F, ds, d, e, r, hg, q⟩ => by
  unfold gMax at hg
  split at hg
  · cases hg
    cases r with
    | cons r1 r2 =>
      cases r2 with
      | cons r2 r3 => cases r3; cases r1; cases r2; exact .inl ⟨_, _, rfl, q.here e (.int _)⟩
  · split at hg
    · rename_i i r' hi
      cases hg
      obtain ⟨a, vs, h1, h2, rs⟩ := lst1 e r
      refine .inr ⟨a, _, h1, .of (ints_reps rs hi ▸ h2), by simp, fun m m1 m2 => ?_⟩
      have : m = imax (i :: r') := Int.le_antisymm (imax_le _ _ _ m1) (m2 _ (imax_mem _ _))
      subst this
      exact q.here e (.int _)
    · cases hg
  · cases hg
theorem ca_min (hc : X.calm = true) : CaD c X (.builtin "min") gMin := car_of ((call_min2 hc).or (cr_min hc)) fun xs H Q ⟨F, ds, d, e, r, hg, q⟩ => by
  unfold gMin at hg
  split at hg
  · cases hg
    cases r with
    | cons r1 r2 =>
      cases r2 with
      | cons r2 r3 => cases r3; cases r1; cases r2; exact .inl ⟨_, _, rfl, q.here e (.int _)⟩
  · split at hg
    · rename_i i r' hi
      cases hg
      obtain ⟨a, vs, h1, h2, rs⟩ := lst1 e r
      refine .inr ⟨a, _, h1, .of (ints_reps rs hi ▸ h2), by simp, fun m m1 m2 => ?_⟩
      have : m = imin (i :: r') := Int.le_antisymm (m2 _ (imin_mem _ _)) (imin_le _ _ _ m1)
      subst this
      exact q.here e (.int _)
    · cases hg
  · cases hg
theorem ca_sum (hc : X.calm = true) : CaD c X (.builtin "sum") gSum := car_of (cr_sum hc) fun xs H Q ⟨F, ds, d, e, r, hg, q⟩ => by
  unfold gSum at hg
  split at hg
  · split at hg
    · rename_i is hi
      cases hg
      obtain ⟨a, vs, h1, h2, rs⟩ := lst1 e r
      exact ⟨a, _, h1, .of (ints_reps rs hi ▸ h2), q.here e (.int _)⟩
    · cases hg
  · cases hg
theorem ca_sorted : CaD c X (.builtin "sorted") gSorted := car_of cr_sortedI fun xs H Q ⟨F, ds, d, e, r, hg, q⟩ => by
  unfold gSorted at hg
  split at hg
  · split at hg
    · rename_i is hi
      cases hg
      obtain ⟨a, vs, h1, h2, rs⟩ := lst1 e r
      refine ⟨a, _, h1, .of (ints_reps rs hi ▸ h2), fun ns' p hp hs hn => ?_⟩
      have := isort_uniq hp hs
      subst this
      exact q.newL e (reps_ints _) p hn
    · cases hg
  · cases hg
theorem ca_str : CaD c X (.type "str") gStr := car_of SkE.call_str_str fun xs H Q ⟨F, ds, d, e, r, hg, q⟩ => by
  unfold gStr at hg
  split at hg
  · cases hg
    cases r with
    | cons r1 r2 => cases r2; cases r1; exact ⟨_, rfl, q.here e (.str _)⟩
  · cases hg
theorem ca_list : CaD c X (.type "list") gList := car_of call_list_of fun xs H Q ⟨F, ds, d, e, r, hg, q⟩ => by
  unfold gList at hg
  split at hg
  · cases hg
    obtain ⟨a, vs, h1, h2, rs⟩ := lst1 e r
    exact ⟨a, _, h1, .inl (.of h2), fun p hp => q.newL e rs p hp⟩
  · cases hg
    obtain ⟨a, vs, h1, _, h2, rs⟩ := tup1 e r
    exact ⟨a, _, h1, .inr (.of h2), fun p hp => q.newL e rs p hp⟩
  · cases hg
theorem ca_tuple : CaD c X (.type "tuple") gTuple := car_of call_tuple_of fun xs H Q ⟨F, ds, d, e, r, hg, q⟩ => by
  unfold gTuple at hg
  split at hg
  · cases hg
    obtain ⟨a, vs, h1, h2, rs⟩ := lst1 e r
    exact ⟨a, _, h1, .inl ⟨.of h2, fun p hp => q.newT e rs p hp⟩⟩
  · cases hg
    obtain ⟨a, vs, h1, h0, h2, rs⟩ := tup1 e r
    exact ⟨a, _, h1, .inr ⟨.of h2, q.here e (.tup h0 rs)⟩⟩
  · cases hg
end

/-! items and slices -/
def gIx : G2
  | .lst xs, .int k => atI xs k
  | .tup xs, .int k => atI xs k
  | .scr xs, .int k => atI xs k
  | .str z, .int k => if z.length ≤ LN then (atI z.cps.toList k).map fun n => .str ⟨#[n]⟩ else none
  | _, _ => none
theorem Reps.atI {G : Gx} {F : Hp} {vs : List V} {ds : List D} {k : Int} {d : D} (r : Reps G F vs ds) (h : L2.atI ds k = some d) : ∃ v, L2.atI vs k = some v ∧ Rep G F v d := by
  unfold L2.atI at h ⊢
  rw [r.length]
  cases e : ixN ds.length k with
  | none => rw [e] at h; cases h
  | some j => rw [e] at h; exact r.get (i := j) h
section
variable {c : Ctx} {X : Cx}
theorem ix_ok (hK : X.K = c.G.K) : IxR X (rD c.G gIx) := by
  intro value slice pins s σ H x y v u Q I rx ry h hs
  refine ix_seq value slice pins s σ H x y v u Q I rx ry ?_ hs
  obtain ⟨F, a, b, d, e, ra, rb, hg, q⟩ := h
  unfold gIx at hg
  split at hg
  · cases ra with
    | lst h1 rs =>
      cases rb
      obtain ⟨v, h2, h3⟩ := rs.atI hg
      exact .inl ⟨_, _, _, _, rfl, rfl, .of (e _ _ h1), h2, q.here e h3⟩
  · cases ra with
    | tup h1 rs =>
      cases rb
      obtain ⟨v, h2, h3⟩ := rs.atI hg
      exact .inr (.inl ⟨_, _, _, _, rfl, rfl, .of (e _ _ h1), h2, q.here e h3⟩)
  · cases ra with
    | scr h1 rs =>
      cases rb
      obtain ⟨v, h2, h3⟩ := rs.atI hg
      exact .inl ⟨_, _, _, _, rfl, rfl, hK ▸ h1.ext e, h2, q.here e h3⟩
  · split at hg
    · rename_i z k hz
      cases ra; cases rb
      cases h2 : L2.atI z.cps.toList k with
      | none => rw [h2] at hg; cases hg
      | some n =>
        rw [h2] at hg
        cases hg
        exact .inr (.inr ⟨_, _, _, rfl, rfl, ln_fit hz, h2, q.here e (.str _)⟩)
    · cases hg
  · cases hg
theorem ve_ix {a b : Expr} {sa sb : SE} {pos} (hK : X.K = c.G.K) (ha : PE X a (vt c sa)) (hb : PE X b (vt c sb)) (hs : PlainIx b := by exact fun _ _ => rfl) : PE X (.Subscript a b pos) (vt c (s2 gIx sa sb)) :=
  pe_of (pe_ix (ix_ok hK) ha hb hs) fun _ _ _ h => vt2 h
/-- what a slot of one's own holds -/
def conM (ρ : Rho) (i : Nat) : Option (List D) := match ρ[i]? with
  | some (.own xs) => some xs
  | some (.bor xs) => some xs
  | _ => none
theorem Ok.own {F H : Hp} {σ : L2.St} {ρ : Rho} (I : Ok c F H σ ρ) {i : Nat} {xs : List D} (h : conM ρ i = some xs) :
    ∃ p vs, σ[i]? = some (some (V.ref p)) ∧ H p = some (.lst vs) ∧ F p = none ∧ Reps c.G F vs xs := by
  unfold conM at h
  split at h
  · rename_i ys hy
    cases h
    obtain ⟨ov, h1, h2⟩ := I.sl i _ hy
    cases ov with
    | none => exact h2.elim
    | some v =>
      obtain ⟨p, e, _, hf, vs, hh, r⟩ := h2
      subst e
      exact ⟨p, vs, h1, hh, hf, r⟩
  · rename_i ys hy
    cases h
    obtain ⟨ov, h1, h2⟩ := I.sl i _ hy
    cases ov with
    | none => exact h2.elim
    | some v =>
      obtain ⟨p, e, _, hf, vs, hh, r⟩ := h2
      subst e
      exact ⟨p, vs, h1, hh, hf, r⟩
  · cases h
/-- an item of a list of one's own -/
def sIxM (i : Nat) (b : SE) : SE := fun ρ => match conM ρ i with
  | none => none
  | some _ => match b ρ with
    | some (.int k, ρ1) => match conM ρ1 i with
      | some xs => match L2.atI xs k with
        | some d => some (d, ρ1)
        | none => none
      | none => none
    | _ => none
theorem ve_ixM {a b : Expr} {i : Nat} {sb : SE} {pos} (ha : PE X a (tVar i)) (hb : PE X b (vt c sb)) (hs : PlainIx b := by exact fun _ _ => rfl) : PE X (.Subscript a b pos) (vt c (sIxM i sb)) := by
  refine pe_of (pe_ix ix_list ha hb hs) fun σ H Q ⟨F, ρ, I, d, ρ', e, q⟩ => ?_
  unfold sIxM at e
  split at e
  · cases e
  · rename_i xs0 e0
    obtain ⟨p, vs0, h0, _⟩ := I.own e0
    split at e
    · rename_i k ρ1 e1
      split at e
      · rename_i xs e2
        split at e
        · rename_i d' e3
          cases e
          refine ⟨_, h0, F, ρ, I, _, ρ', e1, fun w H1 F1 x1 I1 r1 => ?_⟩
          obtain ⟨p', vs, h1, h2, h3, h4⟩ := I1.own e2
          rw [h0] at h1
          cases h1
          cases r1
          obtain ⟨u, g1, g2⟩ := h4.atI e3
          exact ⟨_, vs, k, u, rfl, rfl, .of h2, g1, q u H1 F1 x1 I1 g2⟩
        · cases e
      · cases e
    · cases e
end
end VS

set_option Elab.async false
set_option linter.all false
set_option maxRecDepth 100000
set_option maxHeartbeats 4000000
namespace VS
open PySem PySem.Spec PyProof.Rows L2

/-! slices -/
abbrev SO := Rho → Option (Option Int × Rho)
def vo (c : Ctx) (s : SO) : TO := fun σ H Q => ∃ F ρ, Ok c F H σ ρ ∧ ∃ o ρ', s ρ = some (o, ρ') ∧ ∀ H' F', Ext F F' → Ok c F' H' σ ρ' → Q o H'
def oN : SO := fun ρ => some (none, ρ)
def oS (a : SE) : SO := fun ρ => match a ρ with
  | some (.int i, ρ') => some (some i, ρ')
  | _ => none
def cutD (xs : List D) (lo hi : Option Int) : List D := (xs.drop (HT.sIx xs.length 0 lo)).take (HT.sIx xs.length xs.length hi - HT.sIx xs.length 0 lo)
def gSl : D → Option Int → Option Int → Option D
  | .lst xs, lo, hi => some (.lst (cutD xs lo hi))
  | .tup xs, lo, hi => some (.tup (cutD xs lo hi))
  | _, _, _ => none
def sSl (a : SE) (lo hi : SO) : SE := fun ρ => match a ρ with
  | some (x, ρ1) => match lo ρ1 with
    | some (l, ρ2) => match hi ρ2 with
      | some (h, ρ3) => match gSl x l h with
        | some d => some (d, ρ3)
        | none => none
      | none => none
    | none => none
  | none => none
section
variable {c : Ctx} {X : Cx}
theorem vo_none : PO X none (vo c oN) := ⟨fun pins s σ H Q I ⟨F, ρ, I', o, ρ', e, q⟩ => by
  cases e
  exact po_none.run pins s σ H Q I (q H F Ext.rfl' I')⟩
theorem vo_some {e : Expr} {a : SE} (h : PE X e (vt c a)) : PO X (some e) (vo c (oS a)) := ⟨fun pins s σ H Q I ⟨F, ρ, I', o, ρ', e, q⟩ => by
  refine (po_some h).run pins s σ H Q I ?_
  unfold oS at e
  split at e
  · rename_i i ρ1 e1
    cases e
    exact ⟨F, ρ, I', _, ρ', e1, fun v H' F' x I1 r => by cases r; exact ⟨_, rfl, q H' F' x I1⟩⟩
  · cases e⟩
theorem Reps.cut {G : Gx} {F : Hp} {vs : List V} {ds : List D} (r : Reps G F vs ds) (lo hi : Option Int) : Reps G F (cutV vs lo hi) (cutD ds lo hi) := by
  unfold cutV cutD
  rw [r.length]
  exact (r.drop _).take _
theorem cut_whole {vs : List V} {lo hi : Option Int} (h1 : HT.sIx vs.length 0 lo = 0) (h2 : HT.sIx vs.length vs.length hi = vs.length) : cutV vs lo hi = vs := by
  unfold cutV
  rw [h1, h2]
  simp
theorem ve_slice {a : Expr} {lo hi : Option Expr} {sa : SE} {sl sh : SO} {p2 pos} (ha : PE X a (vt c sa)) (hl : PO X lo (vo c sl)) (hh : PO X hi (vo c sh)) : PE X (.Subscript a (.Slice lo hi none p2) pos) (vt c (sSl sa sl sh)) := by
  refine pe_of (pe_slice (sl_list.or sl_tupA) ha hl hh) fun σ H Q ⟨F, ρ, I, d, ρ', e, q⟩ => ?_
  unfold sSl at e
  split at e
  · rename_i x ρ1 e1
    split at e
    · rename_i l ρ2 e2
      split at e
      · rename_i h ρ3 e3
        split at e
        · rename_i d' e4
          cases e
          refine ⟨F, ρ, I, x, ρ1, e1, fun v H1 F1 x1 I1 r1 => ⟨F1, ρ1, I1, l, ρ2, e2, fun H2 F2 x2 I2 => ⟨F2, ρ2, I2, h, ρ', e3, fun H3 F3 x3 I3 => ?_⟩⟩⟩
          have r1' := (r1.ext x2).ext x3
          have q' : Aft c.G F3 H3 d Q := fun v H' F' g r => q v H' F' (((x1.trans x2).trans x3).trans g.f) (I3.grow g) r
          unfold gSl at e4
          split at e4
          · cases e4
            cases r1' with
            | lst h1 rs => exact .inl ⟨_, _, rfl, .of (I3.fh _ _ h1), fun p hp => q'.newL I3.fh (rs.cut _ _) p hp⟩
          · cases e4
            cases r1' with
            | tup h1 rs =>
              refine .inr ⟨_, _, rfl, .of (I3.fh _ _ h1), fun ⟨w1, w2⟩ => ?_, fun _ p hp => q'.newT I3.fh (rs.cut _ _) p hp⟩
              have rc := rs.cut l h
              rw [cut_whole w1 w2] at rc
              exact q'.here I3.fh (.tup h1 rc)
          · cases e4
        · cases e
      · cases e
    · cases e
  · cases e
end

/-! fields -/
def look (f : Str) : List Str → Option Nat
  | [] => none
  | g :: r => if f = g then some 0 else (look f r).map (· + 1)
theorem lookup_of {f : Str} : ∀ {fs : List (Str × V)} {j : Nat}, look f (fs.map (·.1)) = some j → fs.lookup f = (fs.map (·.2))[j]?
  | [], j, h => by simp [look] at h
  | (g, v) :: r, j, h => by
    simp only [List.map_cons, look] at h
    by_cases e : f = g
    · rw [if_pos e] at h; cases h
      have hb : (f == g) = true := beq_iff_eq.mpr e
      simp [List.lookup, hb]
    · rw [if_neg e] at h
      have hb : (f == g) = false := beq_eq_false_iff_ne.mpr e
      cases h2 : look f (r.map (·.1)) with
      | none => rw [h2] at h; cases h
      | some i =>
        rw [h2] at h; cases h
        have := lookup_of h2
        simp only [List.lookup, hb, List.map_cons, List.getElem?_cons_succ]
        exact this
def gFld (k j : Nat) : G1
  | .ins k' ds => if k' = k then ds[j]? else none
  | _ => none
section
variable {c : Ctx} {X : Cx}
theorem ve_fld {e : Expr} {f : Str} {pos : Pos} {s : SE} (k j : Nat) (he : PE X e (vt c s)) (cl : Cls X.K (c.G.cls k)) (n : NoAttr X.K (c.G.cls k) f) (hj : look f (c.G.fld k) = some j) (hb : attributeBase e f X.env (eval e X.env) = eval e X.env := by rfl) :
    PE X (.Attribute e f pos) (vt c (s1 (gFld k j) s)) := by
  refine pe_of (pe_fld he hb) fun σ H Q ⟨F, ρ, I, d, ρ', e, q⟩ => ?_
  obtain ⟨x, e1, e2⟩ := s1_inv e
  unfold gFld at e2
  split at e2
  · rename_i k' ds
    split at e2
    · rename_i hk
      subst hk
      refine ⟨F, ρ, I, _, ρ', e1, fun v H1 F1 x1 I1 r1 => ?_⟩
      cases r1 with
      | ins h1 hn rs =>
        obtain ⟨u, g1, g2⟩ := rs.get e2
        refine ⟨_, _, _, _, u, rfl, I1.fh _ _ h1, cl, n, ?_, q u H1 F1 x1 I1 g2⟩
        rw [lookup_of (j := j) (by rw [hn]; exact hj)]
        exact g1
    · cases e2
  · cases e2
end

/-! calls of the text's own defs -/
abbrev Mir := List Sl → Option (D × List D)
inductive ArgOk (G : Gx) (F H : Hp) : List Addr → List V → List Sl → Prop
  | vals {vs : List V} {ds : List D} : Reps G F vs ds → ArgOk G F H [] vs (ds.map .val)
  | bor {p : Addr} {vs us : List V} {xs ds : List D} : F p = none → H p = some (.lst us) → Reps G F us xs → Reps G F vs ds → ArgOk G F H [p] (.ref p :: vs) (.bor xs :: ds.map .val)
  | slf {p dx : Addr} {k : Nat} {vs : List V} {ds : List D} : F p = none → H p = some (.ins (G.cls k) dx []) → Reps G F vs ds → ArgOk G F H [p] (.ref p :: vs) (.slf k [] :: ds.map .val)
/-- what a borrowed list is behind the call -/
def Out (G : Gx) (F H : Hp) (B : List Addr) (sl : List Sl) (out : List D) : Prop := ∀ p ∈ B, F p = none ∧ match sl with
  | .bor _ :: _ => ∃ us, H p = some (.lst us) ∧ Reps G F us out
  | .slf k _ :: _ => ∃ dx fs, H p = some (.ins (G.cls k) dx fs) ∧ (∃ n, fs.map (·.1) = (G.fld k).take n) ∧ Reps G F (fs.map (·.2)) out
  | _ => False
/-- all that was there stays, but what is borrowed -/
structure Keep (B : List Addr) (F H F' H' : Hp) : Prop where
  f : Ext F F'
  fh : Ext F' H'
  h : ∀ p o, H p = some o → p ∉ B → H' p = some o
  a : ∀ p o, H p = some o → ∃ o', H' p = some o'
  n : ∀ p o, H p = some o → F p = none → F' p = none
theorem Keep.grow {F H F' H' : Hp} (k : Keep [] F H F' H') : Grow F H F' H' := ⟨k.f, k.fh, fun p o e => k.h p o e (by simp), k.n⟩
/-- THE PROMISE: the mirror's value, by data -/
def spV (G : Gx) (n : Nat) (m : Mir) : Sp := fun vs H Q _ => ∃ F B sl, Ext F H ∧ ArgOk G F H B vs sl ∧ sl.length = n ∧ ∃ d out, m sl = some (d, out) ∧
  ∀ v H' F', Keep B F H F' H' → Out G F' H' B sl out → Rep G F' v d → Q v H'
/-- a def as its callers know it -/
structure Cal (P : Program) (w : World) (G : Gx) (mg : Str → Option Value) (base : Heap) (x : Str) (k n : Nat) (m : Mir) : Prop where
  ex : ∃ (f : Addr) (fd : FuncData) (ps : List Str), mg x = some (.ref f) ∧ PySem.W.keepIn G.K (.ref f) = true ∧ Binds G.K fd ps [] ∧ FnOk P w G.K mg base CX0 k f fd ps (spV G n m)
def sCall (n : Nat) (m : Mir) (a : SA) : SE := fun ρ => match a ρ with
  | some (xs, ρ1) => if xs.length = n then match m (xs.map .val) with
    | some (d, _) => some (d, ρ1)
    | none => none
    else none
  | none => none
/-- the first argument a list of one's own, which the callee may change -/
def setM (ρ : Rho) (i : Nat) (xs : List D) : Rho := match ρ[i]? with
  | some (.own _) => ρ.set i (.own xs)
  | some (.bor _) => ρ.set i (.bor xs)
  | _ => ρ
def sCallM (n : Nat) (m : Mir) (i : Nat) (a : SA) : SE := fun ρ => match conM ρ i with
  | none => none
  | some _ => match a ρ with
    | some (xs, ρ1) => if xs.length + 1 = n then match conM ρ1 i with
      | some ys => match m (.bor ys :: xs.map .val) with
        | some (d, out) => some (d, setM ρ1 i out)
        | none => none
      | none => none
      else none
    | none => none
theorem ArgOk.length {G : Gx} {F H : Hp} {B : List Addr} {vs : List V} {sl : List Sl} (a : ArgOk G F H B vs sl) : vs.length = sl.length := by
  cases a with
  | vals r => simp [r.length]
  | bor _ _ _ r => simp [r.length]
  | slf _ _ r => simp [r.length]
theorem keep_lift {c : Ctx} {F H F' H' : Hp} {σ : L2.St} {ρ : Rho} (I : Ok c F H σ ρ) (k : Keep [] F H F' H') : Ok c F' H' σ ρ := I.grow k.grow
theorem out_nil {G : Gx} {F H : Hp} {sl : List Sl} {out : List D} : Out G F H [] sl out := fun p h => absurd h (by simp)
/-- a list of one's own has been changed by a callee: the rest of the frame stands -/
theorem Ok.lent {c : Ctx} {F H F' H' : Hp} {σ : L2.St} {ρ : Rho} {i : Nat} {xs ys : List D} {p : Addr} {us : List V} (I : Ok c F H σ ρ) (hx : conM ρ i = some xs) (hσ : σ[i]? = some (some (V.ref p)))
    (k : Keep [p] F H F' H') (hf : F' p = none) (hh : H' p = some (.lst us)) (r : Reps c.G F' us ys) : Ok c F' H' σ (setM ρ i ys) := by
  have hi : i < ρ.length := by
    unfold conM at hx
    cases e : ρ[i]? with
    | none => rw [e] at hx; cases hx
    | some s => exact (List.getElem?_eq_some_iff.mp e).1
  have sm : ∃ s0 s1, ρ[i]? = some s0 ∧ s0.mut = true ∧ s1.mut = true ∧ setM ρ i ys = ρ.set i s1 ∧ (∀ ov, SlOk c F H ov s0 → SlOk c F' H' (some (V.ref p)) s1 ∨ ov ≠ some (V.ref p)) ∧ (p ∈ c.B ∨ c.H0 p = none) := by
    unfold conM at hx
    split at hx
    · rename_i zs hz
      obtain ⟨ov, h1, h2⟩ := I.sl i _ hz
      rw [hσ] at h1; cases h1
      obtain ⟨p', e, h0, _⟩ := h2
      cases e
      exact ⟨_, .own ys, hz, rfl, rfl, by unfold setM; rw [hz], fun ov h => .inl ⟨p, rfl, h0, hf, us, hh, r⟩, .inr h0⟩
    · rename_i zs hz
      obtain ⟨ov, h1, h2⟩ := I.sl i _ hz
      rw [hσ] at h1; cases h1
      obtain ⟨p', e, h0, _⟩ := h2
      cases e
      exact ⟨_, .bor ys, hz, rfl, rfl, by unfold setM; rw [hz], fun ov h => .inl ⟨p, rfl, h0, hf, us, hh, r⟩, .inl h0⟩
    · cases hx
  obtain ⟨s0, s1, g1, g2, g3, g4, g5, g6⟩ := sm
  rw [g4]
  refine ⟨by rw [List.length_set]; exact I.len, I.f0.trans k.f, k.fh, fun q o h1 h2 => ?_, fun q o h1 => ?_, fun q o h1 h2 => ?_, fun j s hs => ?_, fun a b s t pa qb ha hb ms mt => ?_, I.hb⟩
  · refine k.h q o (I.fr q o h1 h2) fun z => ?_
    have z : q = p := by simpa using z
    subst z
    rcases g6 with g6 | g6
    · exact h2 g6
    · rw [g6] at h1; cases h1
  · obtain ⟨o', e⟩ := I.al q o h1
    exact k.a q o' e
  · obtain ⟨o', e⟩ := I.al q o h1
    exact k.n q o' e (I.n0 q o h1 h2)
  · by_cases hj : i = j
    · subst hj
      rw [List.getElem?_set_self hi] at hs
      cases hs
      obtain ⟨ov, h1, h2⟩ := I.sl i _ g1
      rw [hσ] at h1; cases h1
      rcases g5 _ h2 with z | z
      · exact ⟨_, hσ, z⟩
      · exact absurd rfl z
    · rw [List.getElem?_set_ne hj] at hs
      obtain ⟨ov, h1, h2⟩ := I.sl j s hs
      refine ⟨ov, h1, ?_⟩
      have ne : ∀ q, s.mut = true → ov = some (V.ref q) → q ∉ [p] := fun q hm e z => by
        have z : q = p := by simpa using z
        exact hj (I.ap i j _ _ p q g1 hs g2 hm hσ (by rw [h1, e]) z.symm)
      cases s with
      | no => cases ov <;> trivial
      | val d =>
        cases ov with
        | none => exact h2
        | some v => exact Rep.ext k.f h2
      | own zs =>
        cases ov with
        | none => exact h2
        | some v =>
          obtain ⟨q, e, a1, a2, ws, a3, a4⟩ := h2
          exact ⟨q, e, a1, k.n q _ a3 a2, ws, k.h q _ a3 (ne q rfl (by rw [e])), a4.ext k.f⟩
      | bor zs =>
        cases ov with
        | none => exact h2
        | some v =>
          obtain ⟨q, e, a1, a2, ws, a3, a4⟩ := h2
          exact ⟨q, e, a1, k.n q _ a3 a2, ws, k.h q _ a3 (ne q rfl (by rw [e])), a4.ext k.f⟩
      | slf z zs =>
        cases ov with
        | none => exact h2
        | some v =>
          obtain ⟨q, e, a1, a2, dx, fs, a3, a4, a5⟩ := h2
          exact ⟨q, e, a1, k.n q _ a3 a2, dx, fs, k.h q _ a3 (ne q rfl (by rw [e])), a4, a5.ext k.f⟩
  · have mu : ∀ (j : Nat) s, (ρ.set i s1)[j]? = some s → s.mut = true → ∃ s', ρ[j]? = some s' ∧ s'.mut = true := fun j s hs hm => by
      by_cases hj : i = j
      · subst hj; exact ⟨s0, g1, g2⟩
      · rw [List.getElem?_set_ne hj] at hs; exact ⟨s, hs, hm⟩
    obtain ⟨s', hs', ms'⟩ := mu a s ha ms
    obtain ⟨t', ht', mt'⟩ := mu b t hb mt
    exact I.ap a b s' t' pa qb hs' ht' ms' mt'
section
variable {c : Ctx} {X : Cx} {x : Str} {p pos : Pos} {e : Expr} {es : List Expr} {k n : Nat} {m : Mir}
theorem call_w {sa : SA} (σ : L2.St) (H : Hp) (Q : VK) (h : vt c (sCall n m sa) σ H Q) : tCall (spV c.G n m) [] E0 (va c sa) σ H Q := by
  obtain ⟨F, ρ, I, d, ρ', e, q⟩ := h
  unfold sCall at e
  split at e
  · rename_i xs ρ1 e1
    split at e
    · rename_i hn
      split at e
      · rename_i d' out e2
        cases e
        refine ⟨F, ρ, I, xs, ρ', e1, fun vs H1 F1 x1 I1 r1 => ?_⟩
        show spV c.G n m (vs ++ []) H1 Q E0
        rw [List.append_nil]
        exact ⟨F1, [], _, I1.fh, ArgOk.vals r1, by rw [List.length_map]; exact hn, d, out, e2, fun v H2 F2 k2 _ r2 => q v H2 F2 (x1.trans k2.f) (keep_lift I1 k2) r2⟩
      · cases e
    · cases e
  · cases e
theorem ve_call {sa : SA} (C : Cal X.prog X.w c.G X.mg X.base x k n m) (hK : X.K = c.G.K) (hr : Room k X.A) (ha : PA X (e :: es) (va c sa)) (hg : Gl X x := by rfl) (hdb : (x == ("__debug__" : Str)) = false := by decide)
    (he : starEach (e :: es) X.env = (false, eval e X.env) :: starEach es X.env := by rfl) (hpl : (backTo pos (starEach es X.env)).any (·.1) = false := by rfl) : PE X (.Call (.Name x p) (e :: es) [] pos) (vt c (sCall n m sa)) := by
  obtain ⟨f, fd, ps, hm, hk, hb, hF⟩ := C.ex
  rw [← hK] at hk hb hF
  exact pe_of (pe_call hF hr hg hm hk hb .nil pass0 ha hdb he hpl) call_w
theorem callM_w {sa : SA} {i : Nat} (σ : L2.St) (H : Hp) (Q : VK) (h : vt c (sCallM n m i sa) σ H Q) : tCall (spV c.G n m) [] E0 (tCons (tVar i) (va c sa)) σ H Q := by
  obtain ⟨F, ρ, I, d, ρ', e, q⟩ := h
  unfold sCallM at e
  split at e
  · cases e
  · rename_i ys0 e0
    obtain ⟨p, us0, h0, _⟩ := I.own e0
    split at e
    · rename_i xs ρ1 e1
      split at e
      · rename_i hn
        split at e
        · rename_i ys e3
          split at e
          · rename_i d' out e2
            cases e
            refine ⟨_, h0, F, ρ, I, xs, ρ1, e1, fun vs H1 F1 x1 I1 r1 => ?_⟩
            show spV c.G n m ((V.ref p :: vs) ++ []) H1 Q E0
            rw [List.append_nil]
            obtain ⟨p', us, h1, h2, h3, h4⟩ := I1.own e3
            rw [h0] at h1; cases h1
            refine ⟨F1, [p], _, I1.fh, .bor h3 h2 h4 r1, by simpa using hn, d, out, e2, fun v H2 F2 k2 o2 r2 => ?_⟩
            obtain ⟨z1, us2, z2, z3⟩ := o2 p (by simp)
            exact q v H2 F2 (x1.trans k2.f) (I1.lent e3 h0 k2 z1 z2 z3) r2
          · cases e
        · cases e
      · cases e
    · cases e
theorem ve_callM {sa : SA} {i : Nat} (C : Cal X.prog X.w c.G X.mg X.base x k n m) (hK : X.K = c.G.K) (hr : Room k X.A) (h1 : PE X e (tVar i)) (ha : PA X es (va c sa)) (hg : Gl X x := by rfl) (hdb : (x == ("__debug__" : Str)) = false := by decide)
    (he : starEach (e :: es) X.env = (false, eval e X.env) :: starEach es X.env := by rfl) (hpl : (backTo pos (starEach es X.env)).any (·.1) = false := by rfl) : PE X (.Call (.Name x p) (e :: es) [] pos) (vt c (sCallM n m i sa)) := by
  obtain ⟨f, fd, ps, hm, hk, hb, hF⟩ := C.ex
  rw [← hK] at hk hb hF
  exact pe_of (pe_call hF hr hg hm hk hb .nil pass0 (pa_cons h1 ha he) hdb he hpl) callM_w
end
end VS

set_option Elab.async false
set_option linter.all false
set_option maxRecDepth 100000
set_option maxHeartbeats 4000000
namespace VS
open PySem PySem.Spec PyProof.Rows L2

/-! statements -/
inductive Fl where
  | nx | rt (d : D) | bk | ct | rm (xs : List D)
abbrev SS := Rho → Option (Fl × Rho)
def vEnd (c : Ctx) (E : Ends) (F : Hp) (fl : Fl) (ρ' : Rho) : Prop := match fl with
  | .nx => ∀ σ H F', Ext F F' → Ok c F' H σ ρ' → E.nx σ H
  | .rt d => ∀ v σ H F', Ext F F' → Ok c F' H σ ρ' → Rep c.G F' v d → E.rt v H
  | .bk => ∀ σ H F', Ext F F' → Ok c F' H σ ρ' → E.bk σ H
  | .ct => ∀ σ H F', Ext F F' → Ok c F' H σ ρ' → E.ct σ H
  | .rm xs => ∀ p us σ H F', Ext F F' → Ok c F' H σ ρ' → c.H0 p = none → F' p = none → H p = some (.lst us) → Reps c.G F' us xs → E.rt (.ref p) H
theorem vEnd.ext {c : Ctx} {E : Ends} {F F' : Hp} {fl : Fl} {ρ : Rho} (h : vEnd c E F fl ρ) (e : Ext F F') : vEnd c E F' fl ρ := by
  cases fl with
  | nx => exact fun σ H F1 x I => h σ H F1 (e.trans x) I
  | rt d => exact fun v σ H F1 x I r => h v σ H F1 (e.trans x) I r
  | bk => exact fun σ H F1 x I => h σ H F1 (e.trans x) I
  | ct => exact fun σ H F1 x I => h σ H F1 (e.trans x) I
  | rm xs => exact fun p us σ H F1 x I a b c' r => h p us σ H F1 (e.trans x) I a b c' r
def vs (c : Ctx) (s : SS) : TS := fun E σ H => ∃ F ρ, Ok c F H σ ρ ∧ ∃ fl ρ', s ρ = some (fl, ρ') ∧ vEnd c E F fl ρ'
def kN : SS := fun ρ => some (.nx, ρ)
def kS (a b : SS) : SS := fun ρ => match a ρ with
  | some (.nx, ρ1) => b ρ1
  | r => r
def kRet (e : SE) : SS := fun ρ => match e ρ with
  | some (d, ρ1) => some (.rt d, ρ1)
  | none => none
def kIf (t : SB) (a b : SS) : SS := fun ρ => match t ρ with
  | some (true, ρ1) => a ρ1
  | some (false, ρ1) => b ρ1
  | none => none
def kNever : SS := fun _ => none
/-- name = value -/
def kSet (i : Nat) (e : SE) : SS := fun ρ => match e ρ with
  | some (d, ρ1) => some (.nx, ρ1.set i (.val d))
  | none => none
def kDrop (e : SE) : SS := fun ρ => match e ρ with
  | some (_, ρ1) => some (.nx, ρ1)
  | none => none
section
variable {c : Ctx} {X : Cx}
theorem vs_nil : PSs X [] (vs c kN) := pss_of pss_nil fun σ H E ⟨F, ρ, I, fl, ρ', e, q⟩ => by cases e; exact q σ H F Ext.rfl' I
theorem seq_w {a b : SS} (σ : L2.St) (H : Hp) (E : Ends) (h : vs c (kS a b) E σ H) : tSeq (vs c a) (vs c b) E σ H := by
  obtain ⟨F, ρ, I, fl, ρ', e, q⟩ := h
  unfold kS at e
  split at e
  · rename_i ρ1 e1
    exact ⟨F, ρ, I, .nx, ρ1, e1, fun σ1 H1 F1 x1 I1 => ⟨F1, ρ1, I1, fl, ρ', e, q.ext x1⟩⟩
  · rename_i e0
    refine ⟨F, ρ, I, fl, ρ', e, ?_⟩
    cases fl with
    | nx => exact absurd e (e0 _)
    | rt d => exact q
    | bk => exact q
    | ct => exact q
    | rm xs => exact q
theorem vs_cons {st : Stmt} {r : List Stmt} {a b : SS} (h1 : PS X st (vs c a)) (h2 : PSs X r (vs c b)) : PSs X (st :: r) (vs c (kS a b)) := pss_of (pss_cons h1 h2) seq_w
theorem vs_one {st : Stmt} {a : SS} (h1 : PS X st (vs c a)) : PSs X [st] (vs c a) := pss_one h1
theorem vs_ret {e : Expr} {s : SE} {pos} (h : PE X e (vt c s)) : PS X (.Return (some e) pos) (vs c (kRet s)) :=
  ps_of (ps_ret h) fun σ H E ⟨F, ρ, I, fl, ρ', e, q⟩ => by
    unfold kRet at e
    split at e
    · rename_i d ρ1 e1
      cases e
      exact ⟨F, ρ, I, d, ρ', e1, fun v H1 F1 x1 I1 r1 => q v σ H1 F1 x1 I1 r1⟩
    · cases e
theorem vs_if {t : Expr} {a b : List Stmt} {st : SB} {sa sb : SS} {pos} (ht : PT X t (vb c st)) (ha : PSs X a (vs c sa)) (hb : PSs X b (vs c sb)) : PS X (.If t a b pos) (vs c (kIf st sa sb)) :=
  ps_of (ps_if ht ha hb) fun σ H E ⟨F, ρ, I, fl, ρ', e, q⟩ => by
    unfold kIf at e
    split at e
    · rename_i ρ1 e1
      exact ⟨F, ρ, I, true, ρ1, e1, fun H1 F1 x1 I1 => iteT ⟨F1, ρ1, I1, fl, ρ', e, q.ext x1⟩⟩
    · rename_i ρ1 e1
      exact ⟨F, ρ, I, false, ρ1, e1, fun H1 F1 x1 I1 => iteF ⟨F1, ρ1, I1, fl, ρ', e, q.ext x1⟩⟩
    · cases e
theorem vs_never {st : Stmt} : PS X st (vs c kNever) := ps_of ps_never fun σ H E ⟨F, ρ, I, fl, ρ', e, q⟩ => by cases e
theorem vss_never {st : List Stmt} : PSs X st (vs c kNever) := pss_of pss_never fun σ H E ⟨F, ρ, I, fl, ρ', e, q⟩ => by cases e
theorem vs_drop {e : Expr} {s : SE} {pos : Pos} (h : PE X e (vt c s)) (hs : swapsWith e none pos.line X.env = pure false := by rfl) : PS X (.Expr e pos) (vs c (kDrop s)) :=
  ps_of (ps_expr h hs) fun σ H E ⟨F, ρ, I, fl, ρ', e, q⟩ => by
    unfold kDrop at e
    split at e
    · rename_i d ρ1 e1
      cases e
      exact ⟨F, ρ, I, d, ρ', e1, fun v H1 F1 x1 I1 r1 => q σ H1 F1 x1 I1⟩
    · cases e
/-- a slot gets a value -/
theorem Ok.put {F H : Hp} {σ : L2.St} {ρ : Rho} (I : Ok c F H σ ρ) (i : Nat) {v : V} {d : D} (r : Rep c.G F v d) : Ok c F H (σ.set i (some v)) (ρ.set i (.val d)) := by
  refine ⟨by rw [List.length_set, List.length_set]; exact I.len, I.f0, I.fh, I.fr, I.al, I.n0, fun j s hs => ?_, fun a b s t p q ha hb ms mt hp hq => ?_, I.hb⟩
  · by_cases hj : i = j
    · subst hj
      have hi : i < ρ.length := by
        have := (List.getElem?_eq_some_iff.mp hs).1
        rwa [List.length_set] at this
      rw [List.getElem?_set_self hi] at hs
      cases hs
      exact ⟨some v, by rw [List.getElem?_set_self (by rw [I.len]; exact hi)], r⟩
    · rw [List.getElem?_set_ne hj] at hs
      obtain ⟨ov, h1, h2⟩ := I.sl j s hs
      exact ⟨ov, by rw [List.getElem?_set_ne hj]; exact h1, h2⟩
  · have no : ∀ (j : Nat) s, (ρ.set i (.val d))[j]? = some s → s.mut = true → i ≠ j := fun j s hs hm z => by
      subst z
      have hi : i < ρ.length := by
        have := (List.getElem?_eq_some_iff.mp hs).1
        rwa [List.length_set] at this
      rw [List.getElem?_set_self hi] at hs
      cases hs; cases hm
    have na := no a s ha ms
    have nb := no b t hb mt
    rw [List.getElem?_set_ne na] at ha hp
    rw [List.getElem?_set_ne nb] at hb hq
    exact I.ap a b s t p q ha hb ms mt hp hq
theorem set_w {i : Nat} {s : SE} (σ : L2.St) (H : Hp) (E : Ends) (h : vs c (kSet i s) E σ H) : tAsg (vt c s) (gName i) E σ H := by
  obtain ⟨F, ρ, I, fl, ρ', e, q⟩ := h
  unfold kSet at e
  split at e
  · rename_i d ρ1 e1
    cases e
    exact ⟨F, ρ, I, d, ρ1, e1, fun v H1 F1 x1 I1 r1 => q _ _ _ x1 (I1.put i r1)⟩
  · cases e
theorem vs_set {i : Nat} {x : Str} {e : Expr} {s : SE} {pos pos' : Pos} (hN : X.N.Nodup) (he : PE X e (vt c s)) (hi : X.N[i]? = some x := by rfl) (hx : Loc X.env.scope x := by first | exact Or.inl rfl | exact Or.inr rfl) (hs : swapsWith e (some (.Name x pos')) pos.line X.env = pure false := by rfl) (hf : X.fn x = true ∨ X.env.scope.names.lookup x = some .local := by first | exact .inl rfl | exact .inr rfl) :
    PS X (.Assign [.Name x pos'] e pos) (vs c (kSet i s)) := ps_of (ps_set hN hi hx he hs hf) set_w
end

/-! a def keeps its promise -/
def outOf (sl : List Sl) (ρ : Rho) : Option (List D) := match sl with
  | .bor _ :: _ => match ρ with
    | .bor xs :: _ => some xs
    | _ => none
  | .slf k _ :: _ => match ρ with
    | .slf k' xs :: _ => if k' = k then some xs else none
    | _ => none
  | _ => some []
/-- the mirror of a body with n names -/
def mir (n : Nat) (s : SS) : Mir := fun sl => match s (sl ++ List.replicate (n - sl.length) .no) with
  | some (.nx, ρ) => match outOf sl ρ with
    | some o => some (.non, o)
    | none => none
  | some (.rt d, ρ) => match outOf sl ρ with
    | some o => some (d, o)
    | none => none
  | _ => none
theorem mir_inv {n : Nat} {s : SS} {sl : List Sl} {d : D} {o : List D} (h : mir n s sl = some (d, o)) : ∃ fl ρ, s (sl ++ List.replicate (n - sl.length) .no) = some (fl, ρ) ∧ outOf sl ρ = some o ∧ (fl = .rt d ∨ (fl = .nx ∧ d = .non)) := by
  unfold mir at h
  split at h
  · split at h
    · cases h; exact ⟨_, _, by assumption, by assumption, .inr ⟨rfl, rfl⟩⟩
    · cases h
  · split at h
    · cases h; exact ⟨_, _, by assumption, by assumption, .inl rfl⟩
    · cases h
  · cases h
/-- the frame at the entry -/
theorem ok_start {G : Gx} {F H : Hp} {B : List Addr} {us : List V} {sl : List Sl} (e : Ext F H) (a : ArgOk G F H B us sl) (k : Nat) :
    Ok ⟨G, F, H, B⟩ F H (us.map some ++ List.replicate k none) (sl ++ List.replicate k .no) := by
  have atv : ∀ {us : List V} {ds : List D}, Reps G F us ds → ∀ (i : Nat) s, (ds.map Sl.val)[i]? = some s → s.mut = false ∧ ∃ v, us[i]? = some v ∧ ∀ H0 B, SlOk ⟨G, F, H0, B⟩ F H (some v) s := by
    intro us ds r i s h
    rw [List.getElem?_map] at h
    cases e : ds[i]? with
    | none => rw [e] at h; cases h
    | some d =>
      rw [e] at h; cases h
      obtain ⟨v, h1, h2⟩ := r.get e
      exact ⟨rfl, v, h1, fun _ _ => h2⟩
  have hlen := a.length
  -- the given slots
  have main : (∀ (i : Nat) s, sl[i]? = some s → (s.mut = true → i = 0) ∧ ∃ v, us[i]? = some v ∧ SlOk ⟨G, F, H, B⟩ F H (some v) s) ∧ ∀ p ∈ B, ∃ o, H p = some o := by
    cases a with
    | vals r =>
      refine ⟨fun i s h => ?_, fun p h => absurd h (by simp)⟩
      obtain ⟨h1, v, h2, h3⟩ := atv r i s h
      exact ⟨fun z => (by rw [h1] at z; cases z), v, h2, h3 _ _⟩
    | bor hf hh r r' =>
      refine ⟨fun i s h => ?_, fun p h => ?_⟩
      · cases i with
        | zero => simp at h; subst h; exact ⟨fun _ => rfl, _, rfl, _, rfl, by simp, hf, _, hh, r⟩
        | succ i =>
          obtain ⟨h1, v, h2, h3⟩ := atv r' i s (by simpa using h)
          exact ⟨fun z => (by rw [h1] at z; cases z), v, by simpa using h2, h3 _ _⟩
      · rw [List.mem_singleton] at h
        subst h; exact ⟨_, hh⟩
    | slf hf hh r' =>
      refine ⟨fun i s h => ?_, fun p h => ?_⟩
      · cases i with
        | zero => simp at h; subst h; exact ⟨fun _ => rfl, _, rfl, _, rfl, by simp, hf, _, _, hh, ⟨0, rfl⟩, .nil⟩
        | succ i =>
          obtain ⟨h1, v, h2, h3⟩ := atv r' i s (by simpa using h)
          exact ⟨fun z => (by rw [h1] at z; cases z), v, by simpa using h2, h3 _ _⟩
      · rw [List.mem_singleton] at h
        subst h; exact ⟨_, hh⟩
  obtain ⟨main, hb⟩ := main
  have part : ∀ (i : Nat) s, (sl ++ List.replicate k Sl.no)[i]? = some s → (i < sl.length ∧ sl[i]? = some s) ∨ (s = .no ∧ (us.map some ++ List.replicate k none)[i]? = some none) := fun i s h => by
    by_cases hi : i < sl.length
    · rw [List.getElem?_append_left hi] at h; exact .inl ⟨hi, h⟩
    · rw [List.getElem?_append_right (by omega), List.getElem?_replicate] at h
      split at h
      · rename_i hk
        cases h
        refine .inr ⟨rfl, ?_⟩
        rw [List.getElem?_append_right (by rw [List.length_map]; omega), List.getElem?_replicate, if_pos (by rw [List.length_map]; omega)]
      · cases h
  refine ⟨by simp [hlen], Ext.rfl', e, fun p o h _ => h, fun p o h => ⟨o, h⟩, fun p o _ h => h, fun i s h => ?_, fun i j s t p q hi hj ms mt _ _ _ => ?_, hb⟩
  · rcases part i s h with ⟨hi, h1⟩ | ⟨h1, h2⟩
    · obtain ⟨_, v, h2, h3⟩ := main i s h1
      exact ⟨some v, by rw [List.getElem?_append_left (by rw [List.length_map]; omega), List.getElem?_map, h2]; rfl, h3⟩
    · subst h1; exact ⟨none, h2, trivial⟩
  · have z : ∀ (i : Nat) s, (sl ++ List.replicate k Sl.no)[i]? = some s → s.mut = true → i = 0 := fun i s h m => by
      rcases part i s h with ⟨_, h1⟩ | ⟨h1, _⟩
      · exact (main i s h1).1 m
      · subst h1; cases m
    rw [z i s hi ms, z j t hj mt]
/-- the frame at the end -/
theorem ok_end {G : Gx} {F H F' H' : Hp} {B : List Addr} {us : List V} {sl : List Sl} {σ : L2.St} {ρ : Rho} {o : List D} (e : Ext F H) (a : ArgOk G F H B us sl) (I : Ok ⟨G, F, H, B⟩ F' H' σ ρ) (ho : outOf sl ρ = some o) : Keep B F H F' H' ∧ Out G F' H' B sl o := by
  refine ⟨⟨I.f0, I.fh, I.fr, I.al, I.n0⟩, ?_⟩
  cases a with
  | vals r => exact out_nil
  | bor hf hh r r' =>
    intro p hp
    rw [List.mem_singleton] at hp
    subst hp
    unfold outOf at ho
    dsimp only at ho
    split at ho
    · rename_i xs ρ'
      cases ho
      obtain ⟨ov, h1, h2⟩ := I.sl 0 _ rfl
      cases ov with
      | none => exact h2.elim
      | some v =>
        obtain ⟨q, e1, h3, h4, us, h5, h6⟩ := h2
        have h3 := List.mem_singleton.mp h3
        subst h3
        exact ⟨h4, us, h5, h6⟩
    · cases ho
  | slf hf' hh r' =>
    intro p hp
    rw [List.mem_singleton] at hp
    subst hp
    unfold outOf at ho
    dsimp only at ho
    split at ho
    · rename_i k' xs ρ'
      split at ho
      · rename_i hk
        subst hk
        cases ho
        obtain ⟨ov, h1, h2⟩ := I.sl 0 _ rfl
        cases ov with
        | none => exact h2.elim
        | some v =>
          obtain ⟨q, e1, h3, h4, dx, fs, h5, ⟨n, h6⟩, h7⟩ := h2
          have h3 := List.mem_singleton.mp h3
          subst h3
          exact ⟨h4, dx, fs, h5, ⟨n, h6⟩, h7⟩
      · cases ho
    · cases ho
/-- THE RULE for a def: what its body computes, by data -/
theorem fn_ok {P : Program} {w : World} {G : Gx} {mg : Str → Option Value} {base : Heap} {x qual : Str} {st : Stmt} {f : Addr} {fd : FuncData} {N ps : List Str} {k : Nat} {s : SS} (F : Fun G.K x qual st f fd) (S : FnScope N ps (defScope st))
    (hb : ∀ (c : Ctx) (cdv : Value) (A : Around) (outer : List Env) (sh : Shared) (H : Hp) (E : XK), c.G = G → Room k (A.deeper (envOfC qual (defScope st) sh.heap.objs.size f cdv)) →
      PSs (cxOf CX0 P w G.K mg base N qual (defScope st) f cdv A outer sh H E).nox (defBody st) (vs c s)) :
    FnOk P w G.K mg base CX0 (k + 1) f fd ps (spV G ps.length (mir N.length s)) := by
  refine F.ok S (fun us H Q E h => ?_) (fun cdv A outer sh H us Q E hr h => ?_)
  · obtain ⟨F0, B, sl, _, a, hn, _⟩ := h
    rw [a.length, hn]
  · obtain ⟨F0, B, sl, e, a, hn, d, o, hm, q⟩ := h
    refine ⟨vs ⟨G, F0, H, B⟩ s, hb _ cdv A outer sh H E rfl hr, ?_⟩
    obtain ⟨fl, ρ, h1, h2, h3⟩ := mir_inv hm
    have hl := a.length
    refine ⟨F0, _, (by have := ok_start e a (N.length - sl.length); unfold L2.start; rw [hl]; exact this), fl, ρ, h1, ?_⟩
    · have fin : ∀ σ H' F', Ok ⟨G, F0, H, B⟩ F' H' σ ρ → Keep B F0 H F' H' ∧ Out G F' H' B sl o := fun σ H' F' I => ok_end e a I h2
      rcases h3 with rfl | ⟨rfl, rfl⟩
      · exact fun v σ H' F' x I r => q v H' F' (fin σ H' F' I).1 (fin σ H' F' I).2 r
      · exact fun σ H' F' x I => q .non H' F' (fin σ H' F' I).1 (fin σ H' F' I).2 .non
end VS

set_option Elab.async false
set_option linter.all false
set_option maxRecDepth 100000
set_option maxHeartbeats 4000000
namespace VS
open PySem PySem.Spec PyProof.Rows L2

/-! what is walked, by data -/
abbrev SI := Rho → Option (List D × Rho)
def Yields (G : Gx) (J : It) (F0 : Hp) (ds : List D) : Prop := ∀ F H, Ext F0 F → Ext F H →
  (∀ (i : Nat) d, ds[i]? = some d → J.go i H ∧ ∀ x H', J.yld i H x H' → ∃ F', Grow F H F' H' ∧ Rep G F' x d) ∧ J.stop ds.length H
def vi (c : Ctx) (s : SI) : TI := fun σ H R => ∃ F ρ, Ok c F H σ ρ ∧ ∃ ds ρ', s ρ = some (ds, ρ') ∧ ∀ J H' F', Ext F F' → Ok c F' H' σ ρ' → Yields c.G J F' ds → R J H'
theorem pi_of {X : Cx} {tg e : Expr} {t t' : TI} (h : PI X tg e t) (w : ∀ σ H R, t' σ H R → t σ H R) : PI X tg e t' := ⟨fun pins s σ H R I q => h.run pins s σ H R I (w σ H R q)⟩
/-- a list or a tuple -/
def iSeq (a : SE) : SI := fun ρ => match a ρ with
  | some (.lst xs, ρ') => some (xs, ρ')
  | _ => none
def iTupl (a : SE) : SI := fun ρ => match a ρ with
  | some (.tup xs, ρ') => some (xs, ρ')
  | _ => none
/-- range(a, b) -/
def rng (a : Int) (n : Nat) : List D := (List.range n).map fun i => .int (a + (i : Nat))
def small62 (j : Int) : Prop := -(2 ^ 62) ≤ j ∧ j < 2 ^ 62
instance (j : Int) : Decidable (small62 j) := inferInstanceAs (Decidable (_ ∧ _))
def iR (a : SA) : SI := fun ρ => match a ρ with
  | some ([.int j], ρ') => if small62 j then some (rng 0 j.toNat, ρ') else none
  | _ => none
def iR2 (a : SA) : SI := fun ρ => match a ρ with
  | some ([.int i, .int j], ρ') => if small62 i ∧ small62 j then some (rng i (j - i).toNat, ρ') else none
  | _ => none
/-- range(a, b, -1) -/
def rngD (a : Int) (n : Nat) : List D := (List.range n).map fun i => .int (a - (i : Nat))
def iRD (a : SA) : SI := fun ρ => match a ρ with
  | some ([.int i, .int j, .int k], ρ') => if small62 i ∧ small62 j ∧ k = -1 then some (rngD i (i - j).toNat, ρ') else none
  | _ => none
def enumF : Nat → List D → List D
  | _, [] => []
  | i, d :: r => .tup [.int (i : Nat), d] :: enumF (i + 1) r
theorem enumF_get : ∀ (ds : List D) (k i : Nat), (enumF k ds)[i]? = ds[i]?.map fun d => .tup [.int ((k + i : Nat) : Int), d]
  | [], _, _ => by simp [enumF]
  | d :: r, k, 0 => by simp [enumF]
  | d :: r, k, i + 1 => by
    simp only [enumF, List.getElem?_cons_succ]
    rw [enumF_get r (k + 1) i, show k + 1 + i = k + (i + 1) by omega]
theorem enumF_length : ∀ (ds : List D) (k : Nat), (enumF k ds).length = ds.length
  | [], _ => rfl
  | d :: r, k => by simp [enumF, enumF_length r (k + 1)]
def iEn (a : SA) : SI := fun ρ => match a ρ with
  | some ([.lst xs], ρ') => some (enumF 0 xs, ρ')
  | _ => none
def iEnT (a : SA) : SI := fun ρ => match a ρ with
  | some ([.tup xs], ρ') => some (enumF 0 xs, ρ')
  | _ => none
def zipD (xs ys : List D) : List D := (xs.zip ys).map fun p => .tup [p.1, p.2]
def iZi (a : SA) : SI := fun ρ => match a ρ with
  | some ([.lst xs, .lst ys], ρ') => some (zipD xs ys, ρ')
  | some ([.tup xs, .tup ys], ρ') => some (zipD xs ys, ρ')
  | _ => none
section
variable {c : Ctx} {X : Cx} {tg : Expr}
theorem yields_list {K : PySem.W.Frag} {F0 : Hp} {a : Addr} {us : List V} {ds : List D} (h : F0 a = some (.lst us)) (r : Reps c.G F0 us ds) : Yields c.G (Itl K a) F0 ds := by
  intro F H e1 e2
  have hH : SqL K H a us := .of (e2 _ _ (e1 _ _ h))
  refine ⟨fun i d hd => ?_, us, hH, Nat.le_of_eq r.length⟩
  obtain ⟨v, h1, h2⟩ := r.get hd
  refine ⟨⟨us, v, hH, h1⟩, fun x H' y => ?_⟩
  obtain ⟨y1, y2⟩ := y
  subst y1
  have := y2 us hH
  rw [h1] at this; cases this
  exact ⟨F, .refl e2, h2.ext e1⟩
theorem yields_tup {K : PySem.W.Frag} {F0 : Hp} {a : Addr} {us : List V} {ds : List D} (h : F0 a = some (.tup us)) (r : Reps c.G F0 us ds) : Yields c.G (Itt K a) F0 ds := by
  intro F H e1 e2
  have hH : SqT K H a us := .of (e2 _ _ (e1 _ _ h))
  refine ⟨fun i d hd => ?_, us, hH, Nat.le_of_eq r.length⟩
  obtain ⟨v, h1, h2⟩ := r.get hd
  refine ⟨⟨us, v, hH, h1⟩, fun x H' y => ?_⟩
  obtain ⟨y1, y2⟩ := y
  subst y1
  have := y2 us hH
  rw [h1] at this; cases this
  exact ⟨F, .refl e2, h2.ext e1⟩
theorem vi_list {e : Expr} {a : SE} (h : PE X e (vt c a)) : PI X tg e (vi c (iSeq a)) := pi_of (pi_list h) fun σ H R ⟨F, ρ, I, ds, ρ', e, q⟩ => by
  unfold iSeq at e
  split at e
  · rename_i xs ρ1 e1
    cases e
    refine ⟨F, ρ, I, _, ρ', e1, fun v H1 F1 x1 I1 r1 => ?_⟩
    cases r1 with
    | lst h1 rs => exact ⟨_, rfl, ⟨_, .of (I1.fh _ _ h1)⟩, q _ _ F1 x1 I1 (yields_list h1 rs)⟩
  · cases e
theorem vi_tup {e : Expr} {a : SE} (h : PE X e (vt c a)) : PI X tg e (vi c (iTupl a)) := pi_of (pi_tup h) fun σ H R ⟨F, ρ, I, ds, ρ', e, q⟩ => by
  unfold iTupl at e
  split at e
  · rename_i xs ρ1 e1
    cases e
    refine ⟨F, ρ, I, _, ρ', e1, fun v H1 F1 x1 I1 r1 => ?_⟩
    cases r1 with
    | tup h1 rs => exact ⟨_, rfl, ⟨_, .of (I1.fh _ _ h1)⟩, q _ _ F1 x1 I1 (yields_tup h1 rs)⟩
  · cases e
theorem rng_get {a : Int} {n i : Nat} {d : D} (h : (rng a n)[i]? = some d) : i < n ∧ d = .int (a + (i : Nat)) := by
  unfold rng at h
  rw [List.getElem?_map] at h
  cases e : (List.range n)[i]? with
  | none => rw [e] at h; cases h
  | some j =>
    rw [e] at h; cases h
    obtain ⟨h1, h2⟩ := List.getElem?_eq_some_iff.mp e
    rw [List.getElem_range] at h2
    subst h2
    exact ⟨by simpa using h1, rfl⟩
theorem yields_rng {F0 : Hp} (a : Int) (n : Nat) : Yields c.G (Itr a n) F0 (rng a n) := by
  intro F H e1 e2
  refine ⟨fun i d hd => ?_, by show n ≤ _; simp [rng]⟩
  obtain ⟨h1, h2⟩ := rng_get hd
  subst h2
  refine ⟨h1, fun x H' y => ?_⟩
  obtain ⟨y1, y2⟩ := y
  subst y1 y2
  exact ⟨F, .refl e2, .int _⟩
theorem reps1 {F : Hp} {vs : List V} {d : D} (r : Reps c.G F vs [d]) : ∃ v, vs = [v] ∧ Rep c.G F v d := by
  cases r with
  | cons h r => cases r; exact ⟨_, rfl, h⟩
theorem reps2 {F : Hp} {vs : List V} {d d' : D} (r : Reps c.G F vs [d, d']) : ∃ v v', vs = [v, v'] ∧ Rep c.G F v d ∧ Rep c.G F v' d' := by
  cases r with
  | cons h r =>
    obtain ⟨v', e, h'⟩ := reps1 r
    subst e
    exact ⟨_, _, rfl, h, h'⟩
theorem reps3 {F : Hp} {vs : List V} {d d' d2 : D} (r : Reps c.G F vs [d, d', d2]) : ∃ v v' v2, vs = [v, v', v2] ∧ Rep c.G F v d ∧ Rep c.G F v' d' ∧ Rep c.G F v2 d2 := by
  cases r with
  | cons h r =>
    obtain ⟨v', v2, e, h', h2⟩ := reps2 r
    subst e
    exact ⟨_, _, _, rfl, h, h', h2⟩
theorem vi_range1 {a : Expr} {sa : SA} {p pos : Pos} (hm : X.mg "range" = none) (ha : PA X [a] (va c sa)) (hg : Gl X "range" := by rfl) (hs : starEach [a] X.env = [(false, eval a X.env)] := by rfl) : PI X tg (.Call (.Name "range" p) [a] [] pos) (vi c (iR sa)) :=
  pi_of (pi_range1 hg hm ha hs) fun σ H R ⟨F, ρ, I, ds, ρ', e, q⟩ => by
    unfold iR at e
    split at e
    · rename_i j ρ1 e1
      split at e
      · rename_i hj
        cases e
        refine ⟨F, ρ, I, _, ρ', e1, fun vs H1 F1 x1 I1 r1 => ?_⟩
        obtain ⟨v, ev, r⟩ := reps1 r1
        cases r
        exact ⟨_, ev, hj.1, hj.2, q _ _ F1 x1 I1 (yields_rng 0 _)⟩
      · cases e
    · cases e
theorem vi_range2 {a b : Expr} {sa : SA} {p pos : Pos} (hm : X.mg "range" = none) (ha : PA X [a, b] (va c sa)) (hg : Gl X "range" := by rfl) (hs : starEach [a, b] X.env = [(false, eval a X.env), (false, eval b X.env)] := by rfl) (hs2 : starEach [b] X.env = [(false, eval b X.env)] := by rfl) :
    PI X tg (.Call (.Name "range" p) [a, b] [] pos) (vi c (iR2 sa)) :=
  pi_of (pi_range2 hg hm ha hs hs2) fun σ H R ⟨F, ρ, I, ds, ρ', e, q⟩ => by
    unfold iR2 at e
    split at e
    · rename_i i j ρ1 e1
      split at e
      · rename_i hj
        cases e
        refine ⟨F, ρ, I, _, ρ', e1, fun vs H1 F1 x1 I1 r1 => ?_⟩
        obtain ⟨v, v', ev, r, r'⟩ := reps2 r1
        cases r; cases r'
        exact ⟨_, _, ev, ⟨hj.1.1, hj.1.2, hj.2.1, hj.2.2⟩, q _ _ F1 x1 I1 (yields_rng _ _)⟩
      · cases e
    · cases e
theorem rngD_get {a : Int} {n i : Nat} {d : D} (h : (rngD a n)[i]? = some d) : i < n ∧ d = .int (a - (i : Nat)) := by
  unfold rngD at h
  rw [List.getElem?_map] at h
  cases e : (List.range n)[i]? with
  | none => rw [e] at h; cases h
  | some j =>
    rw [e] at h; cases h
    obtain ⟨h1, h2⟩ := List.getElem?_eq_some_iff.mp e
    rw [List.getElem_range] at h2
    subst h2
    exact ⟨by simpa using h1, rfl⟩
theorem yields_rngD {F0 : Hp} (a : Int) (n : Nat) : Yields c.G (Itc a (-1) n) F0 (rngD a n) := by
  intro F H e1 e2
  refine ⟨fun i d hd => ?_, by show n ≤ _; simp [rngD]⟩
  obtain ⟨h1, h2⟩ := rngD_get hd
  subst h2
  refine ⟨h1, fun x H' y => ?_⟩
  obtain ⟨y1, y2⟩ := y
  subst y1 y2
  refine ⟨F, .refl e2, ?_⟩
  have : a + (i : Int) * (-1) = a - i := by omega
  rw [this]
  exact .int _
theorem vi_rangeD {a b d : Expr} {sa : SA} {p pos : Pos} (hm : X.mg "range" = none) (ha : PA X [a, b, d] (va c sa)) (hg : Gl X "range" := by rfl) (hs : starEach [a, b, d] X.env = (false, eval a X.env) :: starEach [b, d] X.env := by rfl) (hpl : (backTo pos (starEach [b, d] X.env)).any (·.1) = false := by rfl) :
    PI X tg (.Call (.Name "range" p) [a, b, d] [] pos) (vi c (iRD sa)) :=
  pi_of (pi_range3 hg hm ha hs hpl) fun σ H R ⟨F, ρ, I, ds, ρ', e, q⟩ => by
    unfold iRD at e
    split at e
    · rename_i i j k ρ1 e1
      split at e
      · rename_i hj
        cases e
        obtain ⟨h1, h2, h3⟩ := hj
        subst h3
        refine ⟨F, ρ, I, _, ρ', e1, fun vs H1 F1 x1 I1 r1 => ?_⟩
        obtain ⟨v, v', v2, ev, r, r', r2⟩ := reps3 r1
        cases r; cases r'; cases r2
        exact ⟨_, _, _, _, ev, RgC.neg h1.1 h1.2 h2.1 h2.2, q _ _ F1 x1 I1 (yields_rngD _ _)⟩
      · cases e
    · cases e
theorem yields_enum {K : PySem.W.Frag} {F0 : Hp} {a : Addr} {us : List V} {ds : List D} (h : F0 a = some (.lst us)) (r : Reps c.G F0 us ds) : Yields c.G (Ite K a) F0 (enumF 0 ds) := by
  intro F H e1 e2
  have hH : SqL K H a us := .of (e2 _ _ (e1 _ _ h))
  refine ⟨fun i d hd => ?_, us, hH, by rw [enumF_length]; exact Nat.le_of_eq r.length⟩
  rw [enumF_get] at hd
  cases e : ds[i]? with
  | none => rw [e] at hd; cases hd
  | some d0 =>
    rw [e] at hd; cases hd
    obtain ⟨v, h1, h2⟩ := r.get e
    refine ⟨⟨us, v, hH, h1⟩, fun x H' y => ?_⟩
    obtain ⟨T, v', y1, y2, y3, y4⟩ := y
    have := y4 us hH
    rw [h1] at this; cases this
    subst y1 y3
    refine ⟨_, .new e2 y2, .tup upd_same (.cons ?_ (.cons ((h2.ext e1).ext (Ext.upd (ext_none e2 y2))) .nil))⟩
    rw [Nat.zero_add]
    exact .int _
theorem vi_enum {e : Expr} {sa : SA} {p pos tpos : Pos} {elts : List Expr} {kk : Nat} (hm : X.mg "enumerate" = none) (ha : PA X [e] (va c sa)) (hg : Gl X "enumerate" := by rfl) (hs : starEach [e] X.env = [(false, eval e X.env)] := by rfl) :
    PI X (.Tuple elts kk tpos) (.Call (.Name "enumerate" p) [e] [] pos) (vi c (iEn sa)) :=
  pi_of (pi_enum hg hm ha hs) fun σ H R ⟨F, ρ, I, ds, ρ', e, q⟩ => by
    unfold iEn at e
    split at e
    · rename_i xs ρ1 e1
      cases e
      refine ⟨F, ρ, I, _, ρ', e1, fun vs H1 F1 x1 I1 r1 => ?_⟩
      obtain ⟨v, ev, r⟩ := reps1 r1
      cases r with
      | lst h1 rs => exact ⟨_, _, ev, .of (I1.fh _ _ h1), q _ _ F1 x1 I1 (yields_enum h1 rs)⟩
    · cases e
theorem zipD_get {xs ys : List D} {i : Nat} {d : D} (h : (zipD xs ys)[i]? = some d) : ∃ x y, xs[i]? = some x ∧ ys[i]? = some y ∧ d = .tup [x, y] := by
  unfold zipD at h
  rw [List.getElem?_map] at h
  cases e : (xs.zip ys)[i]? with
  | none => rw [e] at h; cases h
  | some p =>
    rw [e] at h; cases h
    have := List.getElem?_zip_eq_some.mp e
    exact ⟨p.1, p.2, this.1, this.2, rfl⟩
theorem zipD_length (xs ys : List D) : (zipD xs ys).length = min xs.length ys.length := by simp [zipD]
theorem yields_zip {K : PySem.W.Frag} {F0 : Hp} {a b : Addr} {us ws : List V} {ds es : List D} (h : F0 a = some (.lst us)) (r : Reps c.G F0 us ds) (h' : F0 b = some (.lst ws)) (r' : Reps c.G F0 ws es) : Yields c.G (Itz K a b) F0 (zipD ds es) := by
  intro F H e1 e2
  have hH : SqL K H a us := .of (e2 _ _ (e1 _ _ h))
  have hH' : SqL K H b ws := .of (e2 _ _ (e1 _ _ h'))
  refine ⟨fun i d hd => ?_, us, ws, hH, hH', by rw [zipD_length, r.length, r'.length]; omega⟩
  obtain ⟨x, y, g1, g2, rfl⟩ := zipD_get hd
  obtain ⟨v, h1, h2⟩ := r.get g1
  obtain ⟨v', h1', h2'⟩ := r'.get g2
  refine ⟨⟨us, ws, v, v', hH, hH', h1, h1'⟩, fun z H' yy => ?_⟩
  obtain ⟨T, w, w', y1, y2, y3, y4, y5⟩ := yy
  have := y4 us hH
  rw [h1] at this; cases this
  have := y5 ws hH'
  rw [h1'] at this; cases this
  subst y1 y3
  have ex := Ext.upd (o := .tup [v, v']) (ext_none e2 y2)
  exact ⟨_, .new e2 y2, .tup upd_same (.cons ((h2.ext e1).ext ex) (.cons ((h2'.ext e1).ext ex) .nil))⟩
theorem yields_zipT {K : PySem.W.Frag} {F0 : Hp} {a b : Addr} {us ws : List V} {ds es : List D} (h : F0 a = some (.tup us)) (r : Reps c.G F0 us ds) (h' : F0 b = some (.tup ws)) (r' : Reps c.G F0 ws es) : Yields c.G (RZ.ItzT K a b) F0 (zipD ds es) := by
  intro F H e1 e2
  have hH : SqT K H a us := .of (e2 _ _ (e1 _ _ h))
  have hH' : SqT K H b ws := .of (e2 _ _ (e1 _ _ h'))
  refine ⟨fun i d hd => ?_, us, ws, hH, hH', by rw [zipD_length, r.length, r'.length]; omega⟩
  obtain ⟨x, y, g1, g2, rfl⟩ := zipD_get hd
  obtain ⟨v, h1, h2⟩ := r.get g1
  obtain ⟨v', h1', h2'⟩ := r'.get g2
  refine ⟨⟨us, ws, v, v', hH, hH', h1, h1'⟩, fun z H' yy => ?_⟩
  obtain ⟨T, w, w', y1, y2, y3, y4, y5⟩ := yy
  have := y4 us hH
  rw [h1] at this; cases this
  have := y5 ws hH'
  rw [h1'] at this; cases this
  subst y1 y3
  have ex := Ext.upd (o := .tup [v, v']) (ext_none e2 y2)
  exact ⟨_, .new e2 y2, .tup upd_same (.cons ((h2.ext e1).ext ex) (.cons ((h2'.ext e1).ext ex) .nil))⟩
theorem vi_zip {e e2 : Expr} {sa : SA} {p pos tpos : Pos} {elts : List Expr} {kk : Nat} (hm : X.mg "zip" = none) (ha : PA X [e, e2] (va c sa)) (hg : Gl X "zip" := by rfl)
    (hs : starEach [e, e2] X.env = (false, eval e X.env) :: starEach [e2] X.env := by rfl) (hpl : (backTo pos (starEach [e2] X.env)).any (·.1) = false := by rfl) :
    PI X (.Tuple elts kk tpos) (.Call (.Name "zip" p) [e, e2] [] pos) (vi c (iZi sa)) :=
  pi_of (RZ.pi_zipA hg hm ha hs hpl) fun σ H R ⟨F, ρ, I, ds, ρ', e, q⟩ => by
    unfold iZi at e
    split at e
    · rename_i xs ys ρ1 e1
      cases e
      refine ⟨F, ρ, I, _, ρ', e1, fun vs H1 F1 x1 I1 r1 => ?_⟩
      obtain ⟨v, v', ev, r, r'⟩ := reps2 r1
      cases r with
      | lst h1 rs =>
        cases r' with
        | lst h2 rs' => exact ⟨_, _, _, _, ev, .inl ⟨.of (I1.fh _ _ h1), .of (I1.fh _ _ h2), q _ _ F1 x1 I1 (yields_zip h1 rs h2 rs')⟩⟩
    · rename_i xs ys ρ1 e1
      cases e
      refine ⟨F, ρ, I, _, ρ', e1, fun vs H1 F1 x1 I1 r1 => ?_⟩
      obtain ⟨v, v', ev, r, r'⟩ := reps2 r1
      cases r with
      | tup h1 rs =>
        cases r' with
        | tup h2 rs' => exact ⟨_, _, _, _, ev, .inr ⟨.of (I1.fh _ _ h1), .of (I1.fh _ _ h2), q _ _ F1 x1 I1 (yields_zipT h1 rs h2 rs')⟩⟩
    · cases e
end

/-! enumerate(tuple) -/
/-- the tuple at a, each item in a new pair with its place -/
def IteT (K : PySem.W.Frag) (a : Addr) : It :=
  ⟨fun i H => ∃ (xs : List V) (x : V), SqT K H a xs ∧ xs[i]? = some x, fun i H v H' => ∃ T x, v = .ref T ∧ H T = none ∧ H' = upd H T (.tup [.int (i : Nat), x]) ∧ ∀ xs, SqT K H a xs → xs[i]? = some x, fun i H => ∃ xs : List V, SqT K H a xs ∧ xs.length = i⟩
theorem turn_enumT {P : Program} {w : World} {K : PySem.W.Frag} {elts : List Expr} {kk : Nat} {tpos : Pos} (a e it : Addr) (hai : a ≠ it) (hae : a ≠ e) :
    Turn P w K (.Tuple elts kk tpos) (IteT K a) [e, it] e (fun i h => (∃ old, IsEnum h e it (0 + (i : Int)) old) ∧ h.IsTupleIter it a i ∧ e ≠ it) where
  mem := List.mem_cons_self
  obj := by
    rintro i h ⟨⟨old, he⟩, ⟨o, ho, hc, hd⟩, _⟩ b hb
    rcases List.mem_cons.mp hb with rfl | hb
    · exact ⟨_, he, by rintro v q; cases q⟩
    · rw [List.mem_singleton] at hb
      subst hb
      exact ⟨o, ho, by rintro v q; rw [hd] at q; cases q⟩
  keep := by
    rintro i h h' ⟨⟨old, he⟩, hi, hne⟩ k
    exact ⟨⟨old, k e List.mem_cons_self _ he⟩, hi.at fun o q => k it (List.mem_cons_of_mem _ List.mem_cons_self) o q, hne⟩
  item := by
    rintro X rfl rfl rfl hc i pins s σ H E I hf ⟨he, hit, hne⟩ ⟨xs, x, hq, hx⟩
    obtain ⟨its, rv, p, hz⟩ := I.tuple hq
    have hilt : i < its.toArray.size := by
      have := (List.getElem?_eq_some_iff.mp hx).1
      rw [List.size_toArray, ← rv.length]; exact this
    have hh : X.A.in1.handled = none := I.ok.hd hc
    refine wpAny_mono ((GoesN.enumFrom (elts := elts) (x1 := kk) (pos := tpos) 0 (Draws.tuple hh it a hai its.toArray) e hne (by simp only [List.mem_cons, List.not_mem_nil, or_false]; rintro (z | z); exact hne z; exact hae z.symm) List.mem_cons_self).goes i s
      (fun u s2 => ∃ x H', Inv X pins σ H' s2 ∧ RelV x u ∧ (IteT X.K a).yld i H x H' ∧ ((∃ old, IsEnum s2.heap e it (0 + ((i + 1 : Nat) : Int)) old) ∧ s2.heap.IsTupleIter it a (i + 1) ∧ e ≠ it) ∧ ∀ b ∈ [e, it], H' b = none) E hilt ⟨he, hit, p⟩ ?_)
      (fun r s1 ⟨v, h1, h2⟩ => ⟨v, h1, h2⟩) fun _ _ z => z
    rintro v h' tk ⟨T, t, u, rfl, hT, hu, hTup⟩ ⟨he', hit', _⟩ hk htk
    obtain ⟨u', hu', ru⟩ := rv.get hx
    have eu : u = u' := by
      have h1 : its[i]? = some u := by simpa using hu
      rw [hu'] at h1
      exact (Option.some.inj h1).symm
    subst eu
    have new : ObjOk X.prog X.w (upd H T (.tup [.int (i : Nat), x])) h' T (.tup [.int (i : Nat), x]) := by
      refine ⟨by show 2 ≤ sizeLine; decide, [.int (0 + (i : Int)) t, u], .cons ⟨t, by rw [Int.zero_add]⟩ (.cons ru .nil), hTup⟩
    refine ⟨.ref T, _, I.turnedNew (ch := [e, it]) hk hf hT new, rfl, ⟨T, x, rfl, I.hok.fresh hT, rfl, fun ys hy => by rw [I.tuple_inj hy hq]; exact hx⟩, ⟨he', hit', hne⟩, fun b hb => ?_⟩
    have hbl : b < s.heap.objs.size := by
      obtain ⟨⟨old, he⟩, ⟨o, ho, _⟩⟩ := And.intro he hit
      rcases List.mem_cons.mp hb with rfl | hb
      · exact Heap.lt_size he
      · rw [List.mem_singleton] at hb; subst hb; exact Heap.lt_size ho
    rw [upd_ne (Nat.ne_of_lt (Nat.lt_of_lt_of_le hbl hT))]
    exact (hf b hb).1
  done := by
    rintro X rfl rfl rfl hc i pins s σ H E I hf ⟨he, hit, hne⟩ ⟨xs, hq, hx⟩
    obtain ⟨its, rv, p, hz⟩ := I.tuple hq
    have hn : its.toArray.size = i := by rw [List.size_toArray, ← rv.length]; exact hx
    have hh : X.A.in1.handled = none := I.ok.hd hc
    refine wpAny_mono ((GoesN.enumFrom (elts := elts) (x1 := kk) (pos := tpos) 0 (Draws.tuple hh it a hai its.toArray) e hne (by simp only [List.mem_cons, List.not_mem_nil, or_false]; rintro (z | z); exact hne z; exact hae z.symm) List.mem_cons_self).stops s
      (fun s2 => Inv X pins σ H s2) E (by rw [hn]; exact ⟨he, hit, p⟩) fun h' tk hk htk => I.turnedL (ch := [e, it]) hk hf) (fun r s1 z => z) fun _ _ z => z
  self := by
    rintro A i s Q E ⟨⟨old, he⟩, _⟩ h
    exact wpAny_pyIter_enum he h
end VS

set_option Elab.async false
set_option linter.all false
set_option maxRecDepth 100000
set_option maxHeartbeats 4000000
namespace VS
open PySem PySem.Spec PyProof.Rows L2

/-! enumerate(t), t a tuple: made -/
abbrev titer (t : Addr) : Obj := { cls := .type "tuple_iterator", data := .fields #[.ref t, .int 0 0] }
abbrev enumAt (it : Addr) : Obj := { cls := .type "enumerate", data := .fields #[.none, .bool false, .ref it, rawInt 0, .none, .none] }
theorem made_enumT (t : Addr) (its : Array Value) : Meets (Builtin.«enumerate.__new__» ⟨[.type "enumerate", .ref t], []⟩)
    (fun _ R s => s.heap.IsTuple t its ∧ R (.ok (.ret (.ref (s.heap.push (titer t)).objs.size))) { s with heap := (s.heap.push (titer t)).push (enumAt s.heap.objs.size) }) := by
  refine .of_wp fun prog w A R s q => ?_
  rcases s with ⟨h0, gs, dr, tk, os⟩
  rcases q with ⟨ht, q⟩
  have known := sub_enumerate
  have begins : ∀ {A' : Around} {E : Value → Shared → Prop} {Q : Value → Shared → Prop}, Q (.ref h0.objs.size) ⟨h0.push (titer t), gs, dr, tk, os⟩ → wpAny (model prog w) A' (pyIter (.ref t)) Q E ⟨h0, gs, dr, tk, os⟩ :=
    fun z => wpAny_pyIter_tuple (s := ⟨h0, gs, dr, tk, os⟩) ht z
  wp_walk using begins
  refine wpAny_stack_any fun st => wpAny_pure ?_
  split
  · rename_i cl _ _ _ _ _
    cases (cl == Value.type "enumerate") <;> (wp_walk using begins; exact ⟨_, rfl, q⟩)
  · wp_walk using begins
    exact ⟨_, rfl, q⟩
theorem call_enumT {prog : Program} {w : World} {A : Around} {E : Value → Shared → Prop} {s : Shared} {t : Addr} {its : Array Value} {Q : Value → Shared → Prop} (ht : s.heap.IsTuple t its)
    (q : ∀ h', IsEnum h' (s.heap.objs.size + 1) s.heap.objs.size 0 .none → h'.IsTupleIter s.heap.objs.size t 0 → (∀ b o, s.heap.get? b = some o → h'.get? b = some o) → Q (.ref (s.heap.objs.size + 1)) { s with heap := h' }) :
    wpAny (model prog w) A (call (.type "enumerate") [.ref t]) Q E s := by
  have sz : (s.heap.push (titer t)).objs.size = s.heap.objs.size + 1 := Heap.size_push _ _
  have at1 : IsEnum ((s.heap.push (titer t)).push (enumAt s.heap.objs.size)) (s.heap.objs.size + 1) s.heap.objs.size 0 .none := by
    have z := Heap.get?_push_size (s.heap.push (titer t)) (o := enumAt s.heap.objs.size) rfl
    rwa [sz] at z
  have at0 : ((s.heap.push (titer t)).push (enumAt s.heap.objs.size)).IsTupleIter s.heap.objs.size t 0 := ⟨_, Heap.get?_push_of_some _ (Heap.get?_push_size _ rfl), rfl, rfl⟩
  have fin := q _ at1 at0 fun b o z => Heap.get?_push_of_some _ (Heap.get?_push_of_some _ z)
  refine callType_new F.called_enumerate (by decide) (F.typeCall_enumerate_1 _) (F.newCall_enumerate_1 _) (fun ob => F.args_object_init_2 ob _) F.entry_enumerate_new (made_enumT t its) ⟨ht, ?_⟩
  rw [sz]
  exact ⟨⟨_, at1, rfl⟩, fin⟩
def iEnumT (K : PySem.W.Frag) (ta : TA) : TI := fun σ H R => ta σ H fun vs H1 => ∃ a xs, vs = [.ref a] ∧ SqT K H1 a xs ∧ R (IteT K a) H1
theorem pi_enumT {X : Cx} {e : Expr} {ta : TA} {p pos tpos : Pos} {elts : List Expr} {kk : Nat} (hg : Gl X "enumerate") (hm : X.mg "enumerate" = none) (ha : PA X [e] ta) (one : starEach [e] X.env = [(false, eval e X.env)] := by rfl) :
    PI X (.Tuple elts kk tpos) (.Call (.Name "enumerate" p) [e] [] pos) (iEnumT X.K ta) := by
  constructor
  intro pins s σ H R I q
  refine Call_ (ld_blt I hg hm boot_enumerate (PyProof.Rows.callWith_type1 (thn (ha.run pos pins s σ H _ I q) ?_) one rfl))
  rintro us s1 ⟨vs, H1, I1, r1, a, xs, rfl, hq, fin⟩
  obtain ⟨u, rfl, ru⟩ := vals1 r1
  cases ru
  obtain ⟨its, rv, pt, _⟩ := I1.tuple hq
  have al : a < s1.heap.objs.size := by obtain ⟨o, ho, _⟩ := pt; exact Heap.lt_size ho
  refine call_enumT pt fun h' he hit hk => wpAny_pyIter_enum he ?_
  have I2 : Inv X pins σ H1 { s1 with heap := h' } := I1.kept (t' := s1.toks) hk
  refine ⟨s1.heap.objs.size + 1, [s1.heap.objs.size + 1, s1.heap.objs.size], _, _, H1, rfl, I2, turn_enumT a (s1.heap.objs.size + 1) s1.heap.objs.size (Nat.ne_of_lt al) (Nat.ne_of_lt (Nat.lt_succ_of_lt al)), ⟨⟨.none, he⟩, hit, Nat.succ_ne_self _⟩, ?_, fin⟩
  intro b hb
  have le : s1.heap.objs.size ≤ b := by
    rcases List.mem_cons.mp hb with rfl | hb
    · exact Nat.le_succ _
    · rw [List.mem_singleton] at hb; exact Nat.le_of_eq hb.symm
  exact I1.fpOk le (I1.hok.fresh le)
section
variable {c : Ctx} {X : Cx}
theorem yields_enumT {K : PySem.W.Frag} {F0 : Hp} {a : Addr} {us : List V} {ds : List D} (h : F0 a = some (.tup us)) (r : Reps c.G F0 us ds) : Yields c.G (IteT K a) F0 (enumF 0 ds) := by
  intro F H e1 e2
  have hH : SqT K H a us := .of (e2 _ _ (e1 _ _ h))
  refine ⟨fun i d hd => ?_, us, hH, by rw [enumF_length]; exact r.length⟩
  rw [enumF_get] at hd
  cases e : ds[i]? with
  | none => rw [e] at hd; cases hd
  | some d0 =>
    rw [e] at hd; cases hd
    obtain ⟨v, h1, h2⟩ := r.get e
    refine ⟨⟨us, v, hH, h1⟩, fun x H' y => ?_⟩
    obtain ⟨T, v', y1, y2, y3, y4⟩ := y
    have := y4 us hH
    rw [h1] at this; cases this
    subst y1 y3
    refine ⟨_, .new e2 y2, .tup upd_same (.cons ?_ (.cons ((h2.ext e1).ext (Ext.upd (ext_none e2 y2))) .nil))⟩
    rw [Nat.zero_add]
    exact .int _
theorem vi_enumT {e : Expr} {sa : SA} {p pos tpos : Pos} {elts : List Expr} {kk : Nat} (hm : X.mg "enumerate" = none) (ha : PA X [e] (va c sa)) (hg : Gl X "enumerate" := by rfl) (hs : starEach [e] X.env = [(false, eval e X.env)] := by rfl) :
    PI X (.Tuple elts kk tpos) (.Call (.Name "enumerate" p) [e] [] pos) (vi c (iEnT sa)) :=
  pi_of (pi_enumT hg hm ha hs) fun σ H R ⟨F, ρ, I, ds, ρ', e, q⟩ => by
    unfold iEnT at e
    split at e
    · rename_i xs ρ1 e1
      cases e
      refine ⟨F, ρ, I, _, ρ', e1, fun vs H1 F1 x1 I1 r1 => ?_⟩
      obtain ⟨v, ev, r⟩ := reps1 r1
      cases r with
      | tup h1 rs => exact ⟨_, _, ev, .of (I1.fh _ _ h1), q _ _ F1 x1 I1 (yields_enumT h1 rs)⟩
    · cases e

/-! targets: a name, a tuple of names -/
def gsN : List Nat → TGs
  | [] => gNil
  | i :: r => gCons (gName i) (gsN r)
inductive Tg where
  | nm (i : Nat) | tp (is : List Nat) | np (i : Nat) (is : List Nat)
def gT (K : PySem.W.Frag) : Tg → TG
  | .nm i => gName i
  | .tp is => L2.gTup K is.length (gsN is)
  | .np i is => L2.gTup K 2 (gCons (gName i) (gCons (L2.gTup K is.length (gsN is)) gNil))
def sets : List Nat → List D → Rho → Option Rho
  | [], [], ρ => some ρ
  | i :: r, d :: ds, ρ => sets r ds (ρ.set i (.val d))
  | _, _, _ => none
def tgt : Tg → D → Rho → Option Rho
  | .nm i, d, ρ => some (ρ.set i (.val d))
  | .tp is, .tup ds, ρ => sets is ds ρ
  | .np i is, .tup [d, .tup ds], ρ => sets is ds (ρ.set i (.val d))
  | _, _, _ => none
def Tg.ix : Tg → List Nat
  | .nm i => [i]
  | .tp is => is
  | .np i is => i :: is
theorem wipe_set {σ : L2.St} {i : Nat} {x : Option V} : ∀ {vs : List Nat}, i ∈ vs → wipe (σ.set i x) vs = wipe σ vs := by
  have at' : ∀ (vs : List Nat) (σ : L2.St) (j : Nat), (wipe σ vs)[j]? = if j ∈ vs then (if j < σ.length then some none else none) else σ[j]? := by
    intro vs
    induction vs with
    | nil => intro σ j; simp [wipe]
    | cons v vs ih =>
      intro σ j
      unfold wipe
      by_cases hv : v = j
      · subst hv
        by_cases hl : v < σ.length
        · rw [List.getElem?_set_self (by rw [wipe_length]; exact hl)]; simp [hl]
        · rw [List.getElem?_eq_none (by rw [List.length_set, wipe_length]; omega)]; simp [hl]
      · rw [List.getElem?_set_ne hv, ih σ j]
        have : (j ∈ v :: vs) ↔ j ∈ vs := by simp [Ne.symm hv]
        simp only [this]
  intro vs hi
  apply List.ext_getElem?
  intro j
  rw [at', at']
  by_cases hj : j ∈ vs
  · simp [hj]
  · have : i ≠ j := fun z => hj (z ▸ hi)
    simp [hj, List.getElem?_set_ne this]
theorem sets_w {F H : Hp} : ∀ {is : List Nat} {ds : List D} {ρ ρ' : Rho} {us : List V} {σ : L2.St} {Q : L2.St → Hp → Prop} (_ : Ok c F H σ ρ) (_ : Reps c.G F us ds) (_ : sets is ds ρ = some ρ')
    (_ : ∀ σ', Ok c F H σ' ρ' → (∀ vs : List Nat, (∀ i ∈ is, i ∈ vs) → wipe σ' vs = wipe σ vs) → Q σ' H), gsN is us σ H Q
  | [], [], ρ, ρ', us, σ, Q, I, r, h, q => by
    cases r
    unfold sets at h
    cases h
    exact ⟨rfl, q σ I fun _ _ => rfl⟩
  | i :: is, d :: ds, ρ, ρ', us, σ, Q, I, r, h, q => by
    cases r with
    | cons r1 r2 =>
      unfold sets at h
      refine ⟨_, _, rfl, sets_w (I.put i r1) r2 h fun σ' I' w => q σ' I' fun vs hv => ?_⟩
      rw [w vs fun j hj => hv j (List.mem_cons_of_mem _ hj)]
      exact wipe_set (hv i List.mem_cons_self)
  | [], _ :: _, _, _, _, _, _, _, _, h, _ => by unfold sets at h; cases h
  | _ :: _, [], _, _, _, _, _, _, _, h, _ => by unfold sets at h; cases h
theorem sets_len : ∀ {is : List Nat} {ds : List D} {ρ ρ' : Rho}, sets is ds ρ = some ρ' → ds.length = is.length
  | [], [], _, _, _ => rfl
  | _ :: is, _ :: ds, _, _, h => by unfold sets at h; simp [sets_len h]
  | [], _ :: _, _, _, h => by unfold sets at h; cases h
  | _ :: _, [], _, _, h => by unfold sets at h; cases h
theorem tgt_w {K : PySem.W.Frag} {F H : Hp} {t : Tg} {d : D} {ρ ρ' : Rho} {v : V} {σ : L2.St} {Q : L2.St → Hp → Prop} (I : Ok c F H σ ρ) (r : Rep c.G F v d) (h : tgt t d ρ = some ρ')
    (q : ∀ σ', Ok c F H σ' ρ' → (∀ vs : List Nat, (∀ i ∈ t.ix, i ∈ vs) → wipe σ' vs = wipe σ vs) → Q σ' H) : gT K t v σ H Q := by
  cases t with
  | nm i =>
    unfold tgt at h
    cases h
    exact q _ (I.put i r) fun vs hv => wipe_set (hv i List.mem_cons_self)
  | tp is =>
    cases d with
    | tup ds =>
      have h : sets is ds ρ = some ρ' := h
      cases r with
      | tup h1 rs => exact ⟨_, _, rfl, .of (I.fh _ _ h1), by rw [rs.length]; exact sets_len h, sets_w I rs h q⟩
    | _ => simp [tgt] at h
  | np i is =>
    unfold tgt at h
    split at h
    · rename_i e; cases e
    · rename_i e; cases e
    · rename_i e
      cases e
      cases r with
      | tup h1 rs =>
        cases rs with
        | cons r1 r2 =>
          cases r2 with
          | cons r2 r3 =>
            cases r3
            cases r2 with
            | tup h2 rs2 =>
              refine ⟨_, _, rfl, .of (I.fh _ _ h1), rfl, _, _, rfl, _, _, rfl, ⟨_, _, rfl, .of (I.fh _ _ h2), by rw [rs2.length]; exact sets_len h, sets_w (I.put i r1) rs2 h fun σ' I' w => ⟨rfl, q σ' I' fun vs hv => ?_⟩⟩⟩
              rw [w vs fun j hj => hv j (List.mem_cons_of_mem _ hj)]
              exact wipe_set (hv i List.mem_cons_self)
    · cases h

/-! for -/
def kLoop (t : Tg) (b : SS) : List D → SS
  | [], ρ => some (.nx, ρ)
  | d :: r, ρ => match tgt t d ρ with
    | some ρ1 => match b ρ1 with
      | some (.nx, ρ2) => kLoop t b r ρ2
      | some (.ct, ρ2) => kLoop t b r ρ2
      | some (.bk, ρ2) => some (.nx, ρ2)
      | some (.rt x, ρ2) => some (.rt x, ρ2)
      | some (.rm x, ρ2) => some (.rm x, ρ2)
      | none => none
    | none => none
def kFor (it : SI) (t : Tg) (b : SS) : SS := fun ρ => match it ρ with
  | some (ds, ρ1) => kLoop t b ds ρ1
  | none => none
theorem vs_for {tg iter : Expr} {body : List Stmt} {it : SI} {t : Tg} {b : SS} {pos : Pos} (hp : PassesOwn (model X.prog X.w) X.A X.env X.xe) (hc : X.calm = true) (hi : PI X tg iter (vi c it)) (hg : PG X tg (gT X.K t)) (hb : PSs X body (vs c b))
    (hs : ∀ x, foldedSetIterable iter X.env x = pure x := by intro _; rfl) : PS X (.For tg iter body [] pos) (vs c (kFor it t b)) :=
  ps_of (ps_for hp hc hi hg hb hs) fun σ H E ⟨F, ρ, I, fl, ρ', e, q⟩ => by
    unfold kFor at e
    split at e
    · rename_i ds ρ1 e1
      refine ⟨F, ρ, I, ds, ρ1, e1, fun J H1 F1 x1 I1 y => ?_⟩
      refine ⟨fun i m σ H => m = ds.length - i ∧ i ≤ ds.length ∧ ∃ F2 ρ2, Ok c F2 H σ ρ2 ∧ Ext F1 F2 ∧ kLoop t b (ds.drop i) ρ2 = some (fl, ρ'), ⟨ds.length, by simp, Nat.zero_le _, F1, ρ1, I1, Ext.rfl', e⟩, ?_⟩
      rintro i m σ2 H2 ⟨rfl, hi, F2, ρ2, I2, x2, e2⟩
      obtain ⟨y1, y2⟩ := y F2 H2 x2 I2.fh
      by_cases hlt : i < ds.length
      · rw [List.drop_eq_getElem_cons hlt] at e2
        unfold kLoop at e2
        obtain ⟨g1, g2⟩ := y1 i ds[i] (by simp [hlt])
        split at e2
        · rename_i ρ3 e3
          refine .inr ⟨g1, fun σ' H' => i + 1 ≤ ds.length ∧ ∃ F2 ρ2, Ok c F2 H' σ' ρ2 ∧ Ext F1 F2 ∧ kLoop t b (ds.drop (i + 1)) ρ2 = some (fl, ρ'), fun σ' H' ⟨h1, h2⟩ => ⟨ds.length - (i + 1), by omega, rfl, h1, h2⟩, fun x H' yy => ?_⟩
          obtain ⟨F3, g3, r3⟩ := g2 x H' yy
          refine tgt_w (I2.grow g3) r3 e3 fun σ4 I4 _ => ?_
          have x3 : Ext F1 F3 := x2.trans g3.f
          split at e2
          · rename_i ρ5 e5
            exact ⟨F3, ρ3, I4, .nx, ρ5, e5, fun σ6 H6 F6 x6 I6 => ⟨hlt, F6, ρ5, I6, x3.trans x6, e2⟩⟩
          · rename_i ρ5 e5
            exact ⟨F3, ρ3, I4, .ct, ρ5, e5, fun σ6 H6 F6 x6 I6 => ⟨hlt, F6, ρ5, I6, x3.trans x6, e2⟩⟩
          · rename_i ρ5 e5
            cases e2
            exact ⟨F3, ρ3, I4, .bk, ρ', e5, fun σ6 H6 F6 x6 I6 => q σ6 H6 F6 ((x1.trans x3).trans x6) I6⟩
          · rename_i d5 ρ5 e5
            cases e2
            exact ⟨F3, ρ3, I4, .rt d5, ρ', e5, fun v σ6 H6 F6 x6 I6 r6 => q v σ6 H6 F6 ((x1.trans x3).trans x6) I6 r6⟩
          · rename_i d5 ρ5 e5
            cases e2
            exact ⟨F3, ρ3, I4, .rm d5, ρ', e5, fun p us σ6 H6 F6 x6 I6 a1 a2 a3 r6 => q p us σ6 H6 F6 ((x1.trans x3).trans x6) I6 a1 a2 a3 r6⟩
          · cases e2
        · cases e2
      · have hi' : i = ds.length := by omega
        subst hi'
        rw [List.drop_length] at e2
        unfold kLoop at e2
        cases e2
        exact .inl ⟨y2, q σ2 H2 F2 (x1.trans x2) I2⟩
    · cases e
/-! while: at most so many turns -/
def kWh (t : SB) (b : SS) : Nat → SS
  | 0, _ => none
  | n + 1, ρ => match t ρ with
    | some (true, ρ1) => match b ρ1 with
      | some (.nx, ρ2) => kWh t b n ρ2
      | some (.ct, ρ2) => kWh t b n ρ2
      | some (.bk, ρ2) => some (.nx, ρ2)
      | some (.rt x, ρ2) => some (.rt x, ρ2)
      | some (.rm x, ρ2) => some (.rm x, ρ2)
      | none => none
    | some (false, ρ1) => some (.nx, ρ1)
    | none => none
def kWhile (n : Rho → Nat) (t : SB) (b : SS) : SS := fun ρ => kWh t b (n ρ) ρ
theorem vs_while {test : Expr} {body : List Stmt} {t : SB} {b : SS} {pos : Pos} (n : Rho → Nat) (hp : PassesOwn (model X.prog X.w) X.A X.env X.xe) (ht : PT X test (vb c t)) (hb : PSs X body (vs c b)) : PS X (.While test body [] pos) (vs c (kWhile n t b)) :=
  ps_of (ps_while hp ht hb) fun σ H E ⟨F, ρ, I, fl, ρ', e, q⟩ => by
    refine ⟨fun m σ H => ∃ F2 ρ2, Ok c F2 H σ ρ2 ∧ Ext F F2 ∧ kWh t b m ρ2 = some (fl, ρ'), ⟨n ρ, F, ρ, I, Ext.rfl', e⟩, ?_⟩
    rintro m σ2 H2 ⟨F2, ρ2, I2, x2, e2⟩
    cases m with
    | zero => unfold kWh at e2; cases e2
    | succ m =>
      unfold kWh at e2
      split at e2
      · rename_i ρ3 e3
        refine ⟨F2, ρ2, I2, true, ρ3, e3, fun H3 F3 x3 I3 => iteT ⟨fun σ' H' => ∃ F2 ρ2, Ok c F2 H' σ' ρ2 ∧ Ext F F2 ∧ kWh t b m ρ2 = some (fl, ρ'), fun σ' H' h => ⟨m, Nat.lt_succ_self _, h⟩, ?_⟩⟩
        have x4 : Ext F F3 := x2.trans x3
        split at e2
        · rename_i ρ5 e5
          exact ⟨F3, ρ3, I3, .nx, ρ5, e5, fun σ6 H6 F6 x6 I6 => ⟨F6, ρ5, I6, x4.trans x6, e2⟩⟩
        · rename_i ρ5 e5
          exact ⟨F3, ρ3, I3, .ct, ρ5, e5, fun σ6 H6 F6 x6 I6 => ⟨F6, ρ5, I6, x4.trans x6, e2⟩⟩
        · rename_i ρ5 e5
          cases e2
          exact ⟨F3, ρ3, I3, .bk, ρ', e5, fun σ6 H6 F6 x6 I6 => q σ6 H6 F6 (x4.trans x6) I6⟩
        · rename_i d5 ρ5 e5
          cases e2
          exact ⟨F3, ρ3, I3, .rt d5, ρ', e5, fun v σ6 H6 F6 x6 I6 r6 => q v σ6 H6 F6 (x4.trans x6) I6 r6⟩
        · rename_i d5 ρ5 e5
          cases e2
          exact ⟨F3, ρ3, I3, .rm d5, ρ', e5, fun p us σ6 H6 F6 x6 I6 a1 a2 a3 r6 => q p us σ6 H6 F6 (x4.trans x6) I6 a1 a2 a3 r6⟩
        · cases e2
      · rename_i ρ3 e3
        cases e2
        exact ⟨F2, ρ2, I2, false, ρ', e3, fun H3 F3 x3 I3 => iteF (q σ2 H3 F3 (x2.trans x3) I3)⟩
      · cases e2
end
end VS

set_option Elab.async false
set_option linter.all false
set_option maxRecDepth 100000
set_option maxHeartbeats 4000000
namespace VS
open PySem PySem.Spec PyProof.Rows L2

/-! a block within a def (a comprehension's): one's own lists are borrowed, what is not borrowed stays -/
def toB : Sl → Sl
  | .own xs => .bor xs
  | .slf _ _ => .no
  | s => s
def wipeR (ρ : Rho) : List Nat → Rho
  | [] => ρ
  | v :: vs => (wipeR ρ vs).set v .no
def blkR (ix : List Nat) (ρ : Rho) : Rho := wipeR (ρ.map toB) ix
def restore : Rho → Rho → Option Rho
  | [], [] => some []
  | .own _ :: r, .bor ys :: r' => (restore r r').map (.own ys :: ·)
  | .bor _ :: r, .bor ys :: r' => (restore r r').map (.bor ys :: ·)
  | .own _ :: _, _ => none
  | .bor _ :: _, _ => none
  | s :: r, _ :: r' => (restore r r').map (s :: ·)
  | _, _ => none
/-- no slot of one's own among the targets -/
def okT (ix : List Nat) (ρ : Rho) : Bool := ix.all fun i => match ρ[i]? with
  | some (.own _) => false
  | some (.bor _) => false
  | _ => true
def turnC (t : Tg) (tt : SB) (e : SE) (d : D) (ρ : Rho) : Option (Option D × Rho) := if okT t.ix ρ = true then match tgt t d (blkR t.ix ρ) with
  | some ρ1 => match tt ρ1 with
    | some (true, ρ2) => match e ρ2 with
      | some (x, ρ3) => (restore ρ ρ3).map fun r => (some x, r)
      | none => none
    | some (false, ρ2) => (restore ρ ρ2).map fun r => (none, r)
    | none => none
  | none => none
  else none
theorem okT_no {ix : List Nat} {ρ : Rho} (h : okT ix ρ = true) {i : Nat} {xs : List D} (hx : ρ[i]? = some (.own xs) ∨ ρ[i]? = some (.bor xs)) : i ∉ ix := fun hi => by
  have z := List.all_eq_true.mp h i hi
  rcases hx with hx | hx <;> (rw [hx] at z; cases z)
def cLoop (t : Tg) (tt : SB) (e : SE) : List D → Rho → Option (List D × Rho)
  | [], ρ => some ([], ρ)
  | d :: r, ρ => match turnC t tt e d ρ with
    | some (some x, ρ1) => match cLoop t tt e r ρ1 with
      | some (xs, ρ2) => some (x :: xs, ρ2)
      | none => none
    | some (none, ρ1) => cLoop t tt e r ρ1
    | none => none
def sComp (it : SI) (t : Tg) (tt : SB) (e : SE) : SE := fun ρ => match it ρ with
  | some (ds, ρ1) => match cLoop t tt e ds ρ1 with
    | some (out, ρ2) => if out.length ≤ LN then some (.lst out, ρ2) else none
    | none => none
  | none => none
def bYes : SB := fun ρ => some (true, ρ)

theorem wipeR_length (ρ : Rho) : ∀ vs, (wipeR ρ vs).length = ρ.length
  | [] => rfl
  | v :: vs => by unfold wipeR; rw [List.length_set, wipeR_length ρ vs]
theorem wipeR_get (ρ : Rho) : ∀ (vs : List Nat) (j : Nat), (wipeR ρ vs)[j]? = if j ∈ vs then (if j < ρ.length then some .no else none) else ρ[j]?
  | [], j => by simp [wipeR]
  | v :: vs, j => by
    unfold wipeR
    by_cases hv : v = j
    · subst hv
      by_cases hl : v < ρ.length
      · rw [List.getElem?_set_self (by rw [wipeR_length]; exact hl)]; simp [hl]
      · rw [List.getElem?_eq_none (by rw [List.length_set, wipeR_length]; omega)]; simp [hl]
    · rw [List.getElem?_set_ne hv, wipeR_get ρ vs j]
      have : (j ∈ v :: vs) ↔ j ∈ vs := by simp [Ne.symm hv]
      simp only [this]
theorem wipe_get (σ : L2.St) : ∀ (vs : List Nat) (j : Nat), (wipe σ vs)[j]? = if j ∈ vs then (if j < σ.length then some none else none) else σ[j]?
  | [], j => by simp [wipe]
  | v :: vs, j => by
    unfold wipe
    by_cases hv : v = j
    · subst hv
      by_cases hl : v < σ.length
      · rw [List.getElem?_set_self (by rw [wipe_length]; exact hl)]; simp [hl]
      · rw [List.getElem?_eq_none (by rw [List.length_set, wipe_length]; omega)]; simp [hl]
    · rw [List.getElem?_set_ne hv, wipe_get σ vs j]
      have : (j ∈ v :: vs) ↔ j ∈ vs := by simp [Ne.symm hv]
      simp only [this]
theorem blkR_get {ix : List Nat} {ρ : Rho} {j : Nat} {s : Sl} (h : (blkR ix ρ)[j]? = some s) : (s = .no ∧ j < ρ.length) ∨ (j ∉ ix ∧ ∃ s0, ρ[j]? = some s0 ∧ s = toB s0) := by
  unfold blkR at h
  rw [wipeR_get] at h
  by_cases hj : j ∈ ix
  · rw [if_pos hj] at h
    split at h
    · rename_i hl
      cases h
      rw [List.length_map] at hl
      exact .inl ⟨rfl, hl⟩
    · cases h
  · rw [if_neg hj, List.getElem?_map] at h
    cases e : ρ[j]? with
    | none => rw [e] at h; cases h
    | some s0 => rw [e] at h; cases h; exact .inr ⟨hj, s0, rfl, rfl⟩
/-- the addresses of the slots that may change -/
def mutA (σ : L2.St) (ρ : Rho) : List Addr := (List.range ρ.length).filterMap fun i => match ρ[i]?, σ[i]? with
  | some (.own _), some (some (V.ref p)) => some p
  | some (.bor _), some (some (V.ref p)) => some p
  | _, _ => none
theorem mem_mutA {σ : L2.St} {ρ : Rho} {p : Addr} : p ∈ mutA σ ρ ↔ ∃ (i : Nat) (xs : List D), (ρ[i]? = some (.own xs) ∨ ρ[i]? = some (.bor xs)) ∧ σ[i]? = some (some (V.ref p)) := by
  unfold mutA
  rw [List.mem_filterMap]
  constructor
  · rintro ⟨i, hi, h⟩
    split at h
    · rename_i xs q h1 h2; cases h; exact ⟨i, xs, .inl h1, h2⟩
    · rename_i xs q h1 h2; cases h; exact ⟨i, xs, .inr h1, h2⟩
    · cases h
  · rintro ⟨i, xs, h1, h2⟩
    have hi : i < ρ.length := by rcases h1 with h1 | h1 <;> exact (List.getElem?_eq_some_iff.mp h1).1
    refine ⟨i, List.mem_range.mpr hi, ?_⟩
    rcases h1 with h1 | h1 <;> rw [h1, h2]
section
variable {c : Ctx} {X : Cx}
/-- into a block -/
theorem Ok.enter {F H : Hp} {σ : L2.St} {ρ : Rho} (I : Ok c F H σ ρ) (ix : List Nat) : Ok ⟨c.G, F, H, mutA σ ρ⟩ F H (wipe σ ix) (blkR ix ρ) where
  len := by unfold blkR; rw [wipe_length, wipeR_length, List.length_map]; exact I.len
  f0 := Ext.rfl'
  fh := I.fh
  fr := fun p o h _ => h
  al := fun p o h => ⟨o, h⟩
  n0 := fun p o _ h => h
  sl := fun j s hs => by
    rcases blkR_get hs with ⟨h1, h2⟩ | ⟨h1, s0, h2, h3⟩
    · subst h1
      have hj : j < (wipe σ ix).length := by rw [wipe_length, I.len]; exact h2
      exact ⟨_, List.getElem?_eq_getElem hj, by cases (wipe σ ix)[j] <;> trivial⟩
    · obtain ⟨ov, g1, g2⟩ := I.sl j s0 h2
      refine ⟨ov, by rw [wipe_get, if_neg h1]; exact g1, ?_⟩
      subst h3
      cases s0 with
      | no => cases ov <;> trivial
      | val d =>
        cases ov with
        | none => exact g2
        | some v => exact g2
      | slf k fs => cases ov <;> trivial
      | own xs =>
        cases ov with
        | none => exact g2
        | some v =>
          obtain ⟨p, e, a1, a2, vs, a3, a4⟩ := g2
          exact ⟨p, e, mem_mutA.mpr ⟨j, xs, .inl h2, by rw [g1, e]⟩, a2, vs, a3, a4⟩
      | bor xs =>
        cases ov with
        | none => exact g2
        | some v =>
          obtain ⟨p, e, a1, a2, vs, a3, a4⟩ := g2
          exact ⟨p, e, mem_mutA.mpr ⟨j, xs, .inr h2, by rw [g1, e]⟩, a2, vs, a3, a4⟩
  ap := fun i j s t p q hi hj ms mt hp hq e => by
    rcases blkR_get hi with ⟨h1, _⟩ | ⟨h1, s0, h2, h3⟩
    · subst h1; cases ms
    · rcases blkR_get hj with ⟨h1', _⟩ | ⟨h1', t0, h2', h3'⟩
      · subst h1'; cases mt
      · rw [wipe_get, if_neg h1] at hp
        rw [wipe_get, if_neg h1'] at hq
        subst h3 h3'
        refine I.ap i j s0 t0 p q h2 h2' ?_ ?_ hp hq e
        · cases s0 <;> first | rfl | cases ms
        · cases t0 <;> first | rfl | cases mt
  hb := fun p hp => by
    obtain ⟨i, xs, h1, h2⟩ := mem_mutA.mp hp
    have : conM ρ i = some xs := by unfold conM; rcases h1 with h1 | h1 <;> rw [h1]
    obtain ⟨p', vs, g1, g2, _⟩ := I.own this
    rw [h2] at g1; cases g1
    exact ⟨_, g2⟩
theorem restore_get : ∀ {ρ ρ' r : Rho} {i : Nat} {s : Sl}, restore ρ ρ' = some r → r[i]? = some s →
    ∃ s0, ρ[i]? = some s0 ∧ ((s = s0 ∧ (∀ xs, s0 ≠ .own xs ∧ s0 ≠ .bor xs)) ∨ ∃ xs ys, ρ'[i]? = some (.bor ys) ∧ ((s0 = .own xs ∧ s = .own ys) ∨ (s0 = .bor xs ∧ s = .bor ys)))
  | [], [], r, i, s, h, hs => by unfold restore at h; cases h; simp at hs
  | [], _ :: _, _, _, _, h, _ => by simp [restore] at h
  | s0 :: ρ, [], _, _, _, h, _ => by cases s0 <;> simp [restore] at h
  | s0 :: ρ, s1 :: ρ', r, i, s, h, hs => by
    have go : ∀ (x : Sl), (restore ρ ρ').map (x :: ·) = some r → ((x = s0 ∧ (∀ xs, s0 ≠ .own xs ∧ s0 ≠ .bor xs)) ∨ ∃ xs ys, s1 = .bor ys ∧ ((s0 = .own xs ∧ x = .own ys) ∨ (s0 = .bor xs ∧ x = .bor ys))) →
        ∃ s2, (s0 :: ρ)[i]? = some s2 ∧ ((s = s2 ∧ (∀ xs, s2 ≠ .own xs ∧ s2 ≠ .bor xs)) ∨ ∃ xs ys, (s1 :: ρ')[i]? = some (.bor ys) ∧ ((s2 = .own xs ∧ s = .own ys) ∨ (s2 = .bor xs ∧ s = .bor ys))) := fun x hx hq => by
      cases e : restore ρ ρ' with
      | none => rw [e] at hx; cases hx
      | some r0 =>
        rw [e] at hx; cases hx
        cases i with
        | zero =>
          simp at hs; subst hs
          refine ⟨s0, rfl, ?_⟩
          rcases hq with hq | ⟨xs, ys, h1, h2⟩
          · exact .inl hq
          · exact .inr ⟨xs, ys, by subst h1; rfl, h2⟩
        | succ i => simpa using restore_get e (by simpa using hs)
    cases s0 with
    | own xs =>
      cases s1 with
      | bor ys => exact go (.own ys) (by simpa [restore] using h) (.inr ⟨xs, ys, rfl, .inl ⟨rfl, rfl⟩⟩)
      | _ => simp [restore] at h
    | bor xs =>
      cases s1 with
      | bor ys => exact go (.bor ys) (by simpa [restore] using h) (.inr ⟨xs, ys, rfl, .inr ⟨rfl, rfl⟩⟩)
      | _ => simp [restore] at h
    | no => exact go .no (by cases s1 <;> simpa [restore] using h) (.inl ⟨rfl, fun xs => ⟨nofun, nofun⟩⟩)
    | val d => exact go (.val d) (by cases s1 <;> simpa [restore] using h) (.inl ⟨rfl, fun xs => ⟨nofun, nofun⟩⟩)
    | slf k fs => exact go (.slf k fs) (by cases s1 <;> simpa [restore] using h) (.inl ⟨rfl, fun xs => ⟨nofun, nofun⟩⟩)
theorem restore_len : ∀ {ρ ρ' r : Rho}, restore ρ ρ' = some r → r.length = ρ.length
  | [], [], r, h => by unfold restore at h; cases h; rfl
  | [], _ :: _, _, h => by simp [restore] at h
  | s0 :: ρ, [], _, h => by cases s0 <;> simp [restore] at h
  | s0 :: ρ, s1 :: ρ', r, h => by
    have go : ∀ (x : Sl), (restore ρ ρ').map (x :: ·) = some r → r.length = (s0 :: ρ).length := fun x hx => by
      cases e : restore ρ ρ' with
      | none => rw [e] at hx; cases hx
      | some r0 => rw [e] at hx; cases hx; simp [restore_len e]
    cases s0 with
    | own xs =>
      cases s1 with
      | bor ys => exact go (.own ys) (by simpa [restore] using h)
      | _ => simp [restore] at h
    | bor xs =>
      cases s1 with
      | bor ys => exact go (.bor ys) (by simpa [restore] using h)
      | _ => simp [restore] at h
    | no => exact go .no (by cases s1 <;> simpa [restore] using h)
    | val d => exact go (.val d) (by cases s1 <;> simpa [restore] using h)
    | slf k fs => exact go (.slf k fs) (by cases s1 <;> simpa [restore] using h)
/-- out of a block: σ' is the block's frame, the slots ix its own -/
theorem Ok.leave {F H F' H' : Hp} {σ σ' : L2.St} {ρ ρ' r : Rho} {ix : List Nat} (I : Ok c F H σ ρ) (J : Ok ⟨c.G, F, H, mutA σ ρ⟩ F' H' σ' ρ') (hw : wipe σ' ix = wipe σ ix) (hr : restore ρ ρ' = some r)
    (hix : ∀ (i : Nat) (xs ys : List D), (ρ[i]? = some (.own xs) ∨ ρ[i]? = some (.bor xs)) → ρ'[i]? = some (.bor ys) → i ∉ ix) : Ok c F' H' σ r := by
  have notB : ∀ p o, c.H0 p = some o → p ∉ c.B → p ∉ mutA σ ρ := fun p o h1 h2 h3 => by
    obtain ⟨i, xs, g1, g2⟩ := mem_mutA.mp h3
    rcases g1 with g1 | g1
    · obtain ⟨ov, k1, k2⟩ := I.sl i _ g1
      rw [g2] at k1; cases k1
      obtain ⟨q, e, a1, _⟩ := k2
      cases e
      rw [h1] at a1; cases a1
    · obtain ⟨ov, k1, k2⟩ := I.sl i _ g1
      rw [g2] at k1; cases k1
      obtain ⟨q, e, a1, _⟩ := k2
      cases e
      exact h2 a1
  refine ⟨by rw [restore_len hr]; exact I.len, I.f0.trans J.f0, J.fh, fun p o h1 h2 => J.fr p o (I.fr p o h1 h2) (notB p o h1 h2), fun p o h1 => ?_, fun p o h1 h2 => ?_, fun i s hs => ?_, fun i j s t p q hi hj ms mt hp hq e => ?_, I.hb⟩
  · obtain ⟨o', e⟩ := I.al p o h1
    exact J.al p o' e
  · obtain ⟨o', e⟩ := I.al p o h1
    exact J.n0 p o' e (I.n0 p o h1 h2)
  · obtain ⟨s0, h1, h2⟩ := restore_get hr hs
    obtain ⟨ov, g1, g2⟩ := I.sl i s0 h1
    refine ⟨ov, g1, ?_⟩
    have bor : ∀ xs ys, (ρ[i]? = some (.own xs) ∨ ρ[i]? = some (.bor xs)) → ρ'[i]? = some (.bor ys) → ∀ p, ov = some (V.ref p) → F' p = none ∧ ∃ vs, H' p = some (.lst vs) ∧ Reps c.G F' vs ys := fun xs ys hx hy p hp => by
      have hni := hix i xs ys hx hy
      obtain ⟨ov', k1, k2⟩ := J.sl i _ hy
      have e1 : σ'[i]? = σ[i]? := by
        have := congrArg (fun l => l[i]?) hw
        simp only [wipe_get, if_neg hni] at this
        exact this
      rw [e1, g1, hp] at k1
      cases k1
      obtain ⟨q, e, _, a2, vs, a3, a4⟩ := k2
      cases e
      exact ⟨a2, vs, a3, a4⟩
    rcases h2 with ⟨h2, h3⟩ | ⟨xs, ys, h2, ⟨h3, h4⟩ | ⟨h3, h4⟩⟩
    · subst h2
      cases s with
      | no => cases ov <;> trivial
      | val d =>
        cases ov with
        | none => exact g2
        | some v => exact Rep.ext J.f0 g2
      | own xs => exact absurd rfl (h3 xs).1
      | bor xs => exact absurd rfl (h3 xs).2
      | slf k fs =>
        cases ov with
        | none => exact g2
        | some v =>
          obtain ⟨p, e, a1, a2, dx, us, a3, a4, a5⟩ := g2
          have np : p ∉ mutA σ ρ := fun hm => by
            obtain ⟨j, xs, k1, k2⟩ := mem_mutA.mp hm
            have z : i = j := by
              rcases k1 with k1 | k1
              · exact I.ap i j _ _ p p h1 k1 rfl rfl (by rw [g1, e]) k2 rfl
              · exact I.ap i j _ _ p p h1 k1 rfl rfl (by rw [g1, e]) k2 rfl
            subst z
            rcases k1 with k1 | k1 <;> (rw [h1] at k1; cases k1)
          exact ⟨p, e, a1, J.n0 p _ a3 a2, dx, us, J.fr p _ a3 np, a4, a5.ext J.f0⟩
    · subst h3 h4
      cases ov with
      | none => exact g2
      | some v =>
        obtain ⟨p, e, a1, _⟩ := g2
        obtain ⟨b1, b2⟩ := bor xs ys (.inl h1) h2 p (by rw [e])
        exact ⟨p, e, a1, b1, b2⟩
    · subst h3 h4
      cases ov with
      | none => exact g2
      | some v =>
        obtain ⟨p, e, a1, _⟩ := g2
        obtain ⟨b1, b2⟩ := bor xs ys (.inr h1) h2 p (by rw [e])
        exact ⟨p, e, a1, b1, b2⟩
  · have mu : ∀ (i : Nat) (s : Sl), r[i]? = some s → s.mut = true → ∃ s0, ρ[i]? = some s0 ∧ s0.mut = true := fun i s hs hm => by
      obtain ⟨s0, h1, h2⟩ := restore_get hr hs
      refine ⟨s0, h1, ?_⟩
      rcases h2 with ⟨h2, _⟩ | ⟨xs, ys, _, ⟨h3, _⟩ | ⟨h3, _⟩⟩
      · subst h2; exact hm
      · subst h3; rfl
      · subst h3; rfl
    obtain ⟨s0, k1, k2⟩ := mu i s hi ms
    obtain ⟨t0, k3, k4⟩ := mu j t hj mt
    exact I.ap i j s0 t0 p q k1 k3 k2 k4 hp hq e
/-- what is no slot's may be written, or become data -/
theorem Ok.other {F H : Hp} {σ : L2.St} {ρ : Rho} {p : Addr} {us : List V} (I : Ok c F H σ ρ) (hp : H p = some (.lst us)) (hF : F p = none) (h0 : c.H0 p = none) (ap : p ∉ mutA σ ρ) (o : HO) : Ok c F (upd H p o) σ ρ := by
  have nF : ∀ q u, F q = some u → q ≠ p := fun q u e z => by subst z; rw [hF] at e; cases e
  have n0 : ∀ q u, c.H0 q = some u → q ≠ p := fun q u e z => by subst z; rw [h0] at e; cases e
  refine ⟨I.len, I.f0, fun q u e => by rw [upd_ne (nF q u e)]; exact I.fh q u e, fun q u e1 e2 => by rw [upd_ne (n0 q u e1)]; exact I.fr q u e1 e2, fun q u e => by rw [upd_ne (n0 q u e)]; exact I.al q u e, I.n0, fun i s hs => ?_, I.ap, I.hb⟩
  obtain ⟨ov, h1, h2⟩ := I.sl i s hs
  refine ⟨ov, h1, ?_⟩
  cases s with
  | no => cases ov <;> trivial
  | val d => cases ov <;> exact h2
  | own xs =>
    cases ov with
    | none => exact h2
    | some v =>
      obtain ⟨q, e, a1, a2, vs, a3, a4⟩ := h2
      have : q ≠ p := fun z => ap (mem_mutA.mpr ⟨i, xs, .inl hs, by rw [h1, e, z]⟩)
      exact ⟨q, e, a1, a2, vs, by rw [upd_ne this]; exact a3, a4⟩
  | bor xs =>
    cases ov with
    | none => exact h2
    | some v =>
      obtain ⟨q, e, a1, a2, vs, a3, a4⟩ := h2
      have : q ≠ p := fun z => ap (mem_mutA.mpr ⟨i, xs, .inr hs, by rw [h1, e, z]⟩)
      exact ⟨q, e, a1, a2, vs, by rw [upd_ne this]; exact a3, a4⟩
  | slf k fs =>
    cases ov with
    | none => exact h2
    | some v =>
      obtain ⟨q, e, a1, a2, dx, vs, a3, a4, a5⟩ := h2
      have : q ≠ p := fun z => by subst z; rw [hp] at a3; cases a3
      exact ⟨q, e, a1, a2, dx, vs, by rw [upd_ne this]; exact a3, a4, a5⟩
theorem Ok.seal {F H : Hp} {σ : L2.St} {ρ : Rho} {p : Addr} {us : List V} (I : Ok c F H σ ρ) (hp : H p = some (.lst us)) (hF : F p = none) (h0 : c.H0 p = none) (ap : p ∉ mutA σ ρ) : Ok c (upd F p (.lst us)) H σ ρ := by
  have ex : Ext F (upd F p (.lst us)) := Ext.upd hF
  refine ⟨I.len, I.f0.trans ex, fun q u e => ?_, I.fr, I.al, fun q u e1 e2 => ?_, fun i s hs => ?_, I.ap, I.hb⟩
  · by_cases z : q = p
    · subst z; rw [upd_same] at e; cases e; exact hp
    · rw [upd_ne z] at e; exact I.fh q u e
  · have z : q ≠ p := fun z => by subst z; rw [h0] at e1; cases e1
    rw [upd_ne z]; exact I.n0 q u e1 e2
  obtain ⟨ov, h1, h2⟩ := I.sl i s hs
  refine ⟨ov, h1, ?_⟩
  cases s with
  | no => cases ov <;> trivial
  | val d =>
    cases ov with
    | none => exact h2
    | some v => exact Rep.ext ex h2
  | own xs =>
    cases ov with
    | none => exact h2
    | some v =>
      obtain ⟨q, e, a1, a2, vs, a3, a4⟩ := h2
      have : q ≠ p := fun z => ap (mem_mutA.mpr ⟨i, xs, .inl hs, by rw [h1, e, z]⟩)
      exact ⟨q, e, a1, by rw [upd_ne this]; exact a2, vs, a3, a4.ext ex⟩
  | bor xs =>
    cases ov with
    | none => exact h2
    | some v =>
      obtain ⟨q, e, a1, a2, vs, a3, a4⟩ := h2
      have : q ≠ p := fun z => ap (mem_mutA.mpr ⟨i, xs, .inr hs, by rw [h1, e, z]⟩)
      exact ⟨q, e, a1, by rw [upd_ne this]; exact a2, vs, a3, a4.ext ex⟩
  | slf k fs =>
    cases ov with
    | none => exact h2
    | some v =>
      obtain ⟨q, e, a1, a2, dx, vs, a3, a4, a5⟩ := h2
      have : q ≠ p := fun z => by subst z; rw [hp] at a3; cases a3
      exact ⟨q, e, a1, by rw [upd_ne this]; exact a2, dx, vs, a3, a4, a5.ext ex⟩
end
end VS

set_option Elab.async false
set_option linter.all false
set_option maxRecDepth 100000
set_option maxHeartbeats 4000000
namespace VS
open PySem PySem.Spec PyProof.Rows L2

/-! list comprehensions -/
/-- a reading in some block's context -/
def vtX (G : Gx) (s : SE) : TE := fun σ H Q => ∃ F0 H0 B, vt ⟨G, F0, H0, B⟩ s σ H Q
def vbX (G : Gx) (s : SB) : TT := fun σ H Q => ∃ F0 H0 B, vb ⟨G, F0, H0, B⟩ s σ H Q
theorem pe_X {X : Cx} {G : Gx} {e : Expr} {s : SE} (h : ∀ F0 H0 B, PE X e (vt ⟨G, F0, H0, B⟩ s)) : PE X e (vtX G s) :=
  ⟨fun pins sh σ H Q I ⟨F0, H0, B, q⟩ => (h F0 H0 B).run pins sh σ H Q I q⟩
theorem pts_X {X : Cx} {G : Gx} {e : List Expr} {s : SB} (h : ∀ F0 H0 B, PTs X e (vb ⟨G, F0, H0, B⟩ s)) : PTs X e (vbX G s) :=
  ⟨fun pins sh σ H Q I ⟨F0, H0, B, q⟩ => (h F0 H0 B).run pins sh σ H Q I q⟩
theorem vts_nil {X : Cx} {c : Ctx} : PTs X [] (vb c bYes) := ⟨fun pins sh σ H Q I ⟨F, ρ, I', b, ρ', e, q⟩ => by
  cases e
  exact pts_nil.run pins sh σ H Q I (q H F Ext.rfl' I')⟩
theorem vts_one {X : Cx} {c : Ctx} {e : Expr} {s : SB} (h : PT X e (vb c s)) : PTs X [e] (vb c s) := pts_one h
theorem comp_w {c : Ctx} {K : PySem.W.Frag} {it : SI} {t : Tg} {tt : SB} {e : SE} (σ : L2.St) (H : Hp) (Q : VK) (h : vt c (sComp it t tt e) σ H Q) : tLc (vi c it) (gT K t) (vbX c.G tt) (vtX c.G e) t.ix σ H Q := by
  obtain ⟨F, ρ, I, d, ρ', hs, q⟩ := h
  unfold sComp at hs
  split at hs
  · rename_i ds ρ1 e1
    split at hs
    · rename_i out ρ2 e2
      split at hs
      · rename_i hlen
        cases hs
        refine ⟨F, ρ, I, ds, ρ1, e1, fun J H1 F1 x1 I1 y D hD => ?_⟩
        have I1' := I1.grow (Grow.raw (o := .lst []) I1.fh hD)
        have hDF : F1 D = none := ext_none I1.fh hD
        have hD0 : c.H0 D = none := by
          cases z : c.H0 D with
          | none => rfl
          | some o => obtain ⟨o', z'⟩ := I1.al D o z; rw [hD] at z'; cases z'
        have apart : ∀ p, p ∈ mutA σ ρ1 → p ≠ D := fun p hp z => by
          obtain ⟨i, xs, k1, k2⟩ := mem_mutA.mp hp
          have : conM ρ1 i = some xs := by unfold conM; rcases k1 with k1 | k1 <;> rw [k1]
          obtain ⟨p', vs, g1, g2, _⟩ := I1.own this
          rw [k2] at g1; cases g1
          rw [z, hD] at g2; cases g2
        refine ⟨fun i m H => m = ds.length - i ∧ i ≤ ds.length ∧ ∃ F2 ρ2' acc av rest, Ok c F2 H σ ρ2' ∧ Ext F1 F2 ∧ H D = some (.lst av) ∧ F2 D = none ∧ Reps c.G F2 av acc ∧ cLoop t tt e (ds.drop i) ρ2' = some (rest, ρ') ∧ acc ++ rest = out ∧ (∀ p, p ∈ mutA σ ρ2' → p ≠ D),
          ⟨ds.length, by simp, Nat.zero_le _, F1, ρ1, [], [], out, I1', Ext.rfl', upd_same, hDF, .nil, e2, rfl, apart⟩, ?_⟩
        rintro i m H2 ⟨rfl, hi, F2, ρ3, acc, av, rest, I2, x2, hD2, hF2, r2, l2, ho, ap2⟩
        obtain ⟨y1, y2⟩ := y F2 H2 x2 I2.fh
        by_cases hlt : i < ds.length
        · rw [List.drop_eq_getElem_cons hlt] at l2
          obtain ⟨g1, g2⟩ := y1 i ds[i] (by simp [hlt])
          refine .inr ⟨g1, fun H => i + 1 ≤ ds.length ∧ ∃ F2 ρ2' acc av rest, Ok c F2 H σ ρ2' ∧ Ext F1 F2 ∧ H D = some (.lst av) ∧ F2 D = none ∧ Reps c.G F2 av acc ∧ cLoop t tt e (ds.drop (i + 1)) ρ2' = some (rest, ρ') ∧ acc ++ rest = out ∧ (∀ p, p ∈ mutA σ ρ2' → p ≠ D), fun H' ⟨h1, h2⟩ => ⟨ds.length - (i + 1), by omega, rfl, h1, h2⟩, fun x H' yy => ?_⟩
          obtain ⟨F3, g3, r3⟩ := g2 x H' yy
          have I3 := I2.grow g3
          have J3 := I3.enter t.ix
          have hD3 : H' D = some (.lst av) := g3.h _ _ hD2
          have hF3 : F3 D = none := g3.n _ _ hD2 hF2
          have nD : D ∉ mutA σ ρ3 := fun z => ap2 D z rfl
          -- the turn's own semantics
          unfold cLoop at l2
          have turn : okT t.ix ρ3 = true ∧ ∃ ρ4 b ρ5, tgt t ds[i] (blkR t.ix ρ3) = some ρ4 ∧ tt ρ4 = some (b, ρ5) ∧ ((b = true ∧ ∃ x ρ6 r xs, e ρ5 = some (x, ρ6) ∧ restore ρ3 ρ6 = some r ∧ cLoop t tt e (ds.drop (i + 1)) r = some (xs, ρ') ∧ rest = x :: xs) ∨
              (b = false ∧ ∃ r, restore ρ3 ρ5 = some r ∧ cLoop t tt e (ds.drop (i + 1)) r = some (rest, ρ'))) := by
            unfold turnC at l2
            by_cases k0 : okT t.ix ρ3 = true
            case neg => rw [if_neg k0] at l2; cases l2
            rw [if_pos k0] at l2
            refine ⟨k0, ?_⟩
            cases k1 : tgt t ds[i] (blkR t.ix ρ3) with
            | none => rw [k1] at l2; cases l2
            | some ρ4 =>
              rw [k1] at l2
              dsimp only at l2
              cases k2 : tt ρ4 with
              | none => rw [k2] at l2; cases l2
              | some p2 =>
                obtain ⟨b, ρ5⟩ := p2
                rw [k2] at l2
                refine ⟨ρ4, b, ρ5, rfl, k2, ?_⟩
                cases b with
                | true =>
                  dsimp only at l2
                  cases k3 : e ρ5 with
                  | none => rw [k3] at l2; cases l2
                  | some p3 =>
                    obtain ⟨x, ρ6⟩ := p3
                    rw [k3] at l2
                    dsimp only at l2
                    cases k4 : restore ρ3 ρ6 with
                    | none => rw [k4] at l2; cases l2
                    | some r =>
                      rw [k4] at l2
                      dsimp only [Option.map] at l2
                      cases k5 : cLoop t tt e (ds.drop (i + 1)) r with
                      | none => rw [k5] at l2; cases l2
                      | some p5 =>
                        obtain ⟨xs, ρ7⟩ := p5
                        rw [k5] at l2
                        cases l2
                        exact .inl ⟨rfl, x, ρ6, r, xs, rfl, k4, k5, rfl⟩
                | false =>
                  dsimp only at l2
                  cases k4 : restore ρ3 ρ5 with
                  | none => rw [k4] at l2; cases l2
                  | some r =>
                    rw [k4] at l2
                    exact .inr ⟨rfl, r, rfl, l2⟩
          obtain ⟨k0, ρ4, b, ρ5, k1, k2, k3⟩ := turn
          refine tgt_w J3 r3 k1 fun σ4 J4 w4 => ?_
          have hw : wipe σ4 t.ix = wipe σ t.ix := by
            rw [w4 t.ix fun _ z => z]
            apply List.ext_getElem?
            intro j
            rw [wipe_get, wipe_get, wipe_length]
            by_cases hj : j ∈ t.ix
            · simp [hj]
            · simp [hj]
          refine ⟨?_, F3, H', mutA σ ρ3, F3, ρ4, J4, b, ρ5, k2, fun H5 F5 x5 J5 => ?_⟩
          · exact hw
          -- where a slot of the block is one of ours it is none of the targets
          have nix : ∀ {ρz : Rho} {Fz Hz : Hp}, Ok ⟨c.G, F3, H', mutA σ ρ3⟩ Fz Hz σ4 ρz → ∀ (j : Nat) (xs ys : List VS.D), (ρ3[j]? = some (.own xs) ∨ ρ3[j]? = some (.bor xs)) → ρz[j]? = some (.bor ys) → j ∉ t.ix :=
            fun _ j xs ys hx _ => okT_no k0 hx
          have fin : ∀ {ρz r : Rho} {Fz Hz : Hp}, Ok ⟨c.G, F3, H', mutA σ ρ3⟩ Fz Hz σ4 ρz → restore ρ3 ρz = some r → Ok c Fz Hz σ r ∧ Hz D = some (.lst av) ∧ Fz D = none ∧ Ext F3 Fz ∧ (∀ p, p ∈ mutA σ r → p ≠ D) := fun {ρz r Fz Hz} Jz hr => by
            refine ⟨I3.leave Jz hw hr (nix Jz), Jz.fr _ _ hD3 nD, Jz.n0 _ _ hD3 hF3, Jz.f0, fun p hp => ?_⟩
            obtain ⟨j, xs, m1, m2⟩ := mem_mutA.mp hp
            refine ap2 p (mem_mutA.mpr ?_)
            rcases m1 with m1 | m1
            · obtain ⟨s0, z1, z2⟩ := restore_get hr m1
              rcases z2 with ⟨z2, z3⟩ | ⟨zs, ys, _, ⟨z3, _⟩ | ⟨_, z4⟩⟩
              · exact absurd z2.symm (z3 _).1
              · exact ⟨j, zs, .inl (by rw [z1, z3]), m2⟩
              · cases z4
            · obtain ⟨s0, z1, z2⟩ := restore_get hr m1
              rcases z2 with ⟨z2, z3⟩ | ⟨zs, ys, _, ⟨_, z4⟩ | ⟨z3, _⟩⟩
              · exact absurd z2.symm (z3 _).2
              · cases z4
              · exact ⟨j, zs, .inr (by rw [z1, z3]), m2⟩
          rcases k3 with ⟨rfl, x, ρ6, r, xs, j1, j2, j3, j4⟩ | ⟨rfl, r, j2, j3⟩
          · refine iteT ⟨F3, H', mutA σ ρ3, F5, ρ5, J5, x, ρ6, j1, fun v H6 F6 x6 J6 r6 => ?_⟩
            obtain ⟨I6, hD6, hF6, x36, ap6⟩ := fin J6 j2
            have ra : Reps c.G F6 av acc := (r2.ext g3.f).ext x36
            have hz : av.length < sizeLine := by
              rw [ra.length]
              have : acc.length < out.length := by rw [← ho, j4]; simp
              have := ln_fit hlen
              omega
            refine ⟨av, hD6, hz, hlt, F6, r, acc ++ [x], av ++ [v], xs, ?_, (x2.trans g3.f).trans x36, upd_same, hF6, ra.append (.one r6), j3, by rw [← ho, j4]; simp, ap6⟩
            exact I6.other hD6 hF6 hD0 (fun z => ap6 _ z rfl) _
          · refine iteF ?_
            obtain ⟨I5, hD5, hF5, x35, ap5⟩ := fin J5 j2
            exact ⟨hlt, F5, r, acc, av, rest, I5, (x2.trans g3.f).trans x35, hD5, hF5, (r2.ext g3.f).ext x35, j3, ho, ap5⟩
        · have hi' : i = ds.length := by omega
          subst hi'
          rw [List.drop_length] at l2
          unfold cLoop at l2
          cases l2
          rw [List.append_nil] at ho
          subst ho
          refine .inl ⟨y2, ?_⟩
          exact q _ H2 _ ((x1.trans x2).trans (Ext.upd hF2)) (I2.seal hD2 hF2 hD0 fun z => ap2 _ z rfl) (.lst upd_same (r2.ext (Ext.upd hF2)))
      · cases hs
    · cases hs
  · cases hs
section
variable {c : Ctx} {X : Cx}
/-- [elt for tg in iter if ..]; he, ht for whatever context -/
theorem ve_lc {elt tg iter : Expr} {ifs : List Expr} {scope : Scope} {own : List (Str × Nat)} {pos : Pos} {it : SI} {tt : SB} {e : SE} (t : Tg) (hc : X.calm = true) (hN : X.N.Nodup) (hi : PI X tg iter (vi c it)) (ok : BlkOk X.N X.env.scope scope own) (hix : own.map (·.2) = t.ix)
    (hg : ∀ (s : Shared) (H : Hp) (C : Addr) (cl : List (Str × Addr)) (fp : List Addr), PG (X.blk s H scope (compEnvC scope cl C X.env) fp) tg (gT X.K t))
    (ht : ∀ (s : Shared) (H : Hp) (C : Addr) (cl : List (Str × Addr)) (fp : List Addr) (F0 H0 : Hp) (B : List Addr), PTs (X.blk s H scope (compEnvC scope cl C X.env) fp) ifs (vb ⟨c.G, F0, H0, B⟩ tt))
    (he : ∀ (s : Shared) (H : Hp) (C : Addr) (cl : List (Str × Addr)) (fp : List Addr) (F0 H0 : Hp) (B : List Addr), PE (X.blk s H scope (compEnvC scope cl C X.env) fp) elt (vt ⟨c.G, F0, H0, B⟩ e))
    (hs : ∀ x, foldedSetIterable iter X.env x = pure x := by intro _; rfl) : PE X (.ListComp elt [⟨tg, iter, ifs, 0⟩] scope pos) (vt c (sComp it t tt e)) :=
  pe_of (pe_lc hc hN hi ok hg (fun s H C cl fp => pts_X (ht s H C cl fp)) (fun s H C cl fp => pe_X (he s H C cl fp)) hs) fun σ H Q q => by
    rw [hix]
    exact comp_w σ H Q q
/-- name = [..] on one line, the name a plain local -/
theorem vs_setLc {i : Nat} {y : Str} {py : Pos} {elt tg iter : Expr} {ifs : List Expr} {scope : Scope} {own : List (Str × Nat)} {pos spos : Pos} {it : SI} {tt : SB} {e : SE} (t : Tg) (hc : X.calm = true) (hN : X.N.Nodup)
    (hi : PI X tg iter (vi c it)) (ok : BlkOk X.N X.env.scope scope own) (hix : own.map (·.2) = t.ix)
    (hg : ∀ (s : Shared) (H : Hp) (C : Addr) (cl : List (Str × Addr)) (fp : List Addr), PG (X.blk s H scope (compEnvC scope cl C X.env) fp) tg (gT X.K t))
    (ht : ∀ (s : Shared) (H : Hp) (C : Addr) (cl : List (Str × Addr)) (fp : List Addr) (F0 H0 : Hp) (B : List Addr), PTs (X.blk s H scope (compEnvC scope cl C X.env) fp) ifs (vb ⟨c.G, F0, H0, B⟩ tt))
    (he : ∀ (s : Shared) (H : Hp) (C : Addr) (cl : List (Str × Addr)) (fp : List Addr) (F0 H0 : Hp) (B : List Addr), PE (X.blk s H scope (compEnvC scope cl C X.env) fp) elt (vt ⟨c.G, F0, H0, B⟩ e))
    (hsw : swapsWith (.ListComp elt [⟨tg, iter, ifs, 0⟩] scope pos) (some (.Name y py)) spos.line X.env = pure true)
    (hy : X.N[i]? = some y := by rfl) (hyl : X.env.scope.names.lookup y = some .local := by rfl)
    (hs : ∀ x, foldedSetIterable iter X.env x = pure x := by intro _; rfl) : PS X (.Assign [.Name y py] (.ListComp elt [⟨tg, iter, ifs, 0⟩] scope pos) spos) (vs c (kSet i (sComp it t tt e))) :=
  ps_of (ps_setLc hc hN hy hyl hsw hi ok hg (fun s H C cl fp => pts_X (ht s H C cl fp)) (fun s H C cl fp => pe_X (he s H C cl fp)) hs) fun σ H E q => by
    obtain ⟨F, ρ, I, fl, ρ', e1, q⟩ := q
    unfold kSet at e1
    split at e1
    · rename_i d ρ1 e2
      cases e1
      rw [hix]
      exact comp_w σ H _ ⟨F, ρ, I, d, ρ1, e2, fun v H1 F1 x1 I1 r1 => q _ _ _ x1 (I1.put i r1)⟩
    · cases e1
end
end VS

set_option Elab.async false
set_option linter.all false
set_option maxRecDepth 100000
set_option maxHeartbeats 4000000
namespace VS
open PySem PySem.Spec PyProof.Rows L2

/-! lists of one's own -/
def isFr (ρ : Rho) (i : Nat) : Bool := decide (i < ρ.length)
/-- name = [e, ..], to be changed -/
def kOwn (i : Nat) (a : SA) : SS := fun ρ => match a ρ with
  | some (xs, ρ1) => if xs.length ≤ LN then some (.nx, ρ1.set i (.own xs)) else none
  | none => none
/-- name.append(e) -/
def kApp (i : Nat) (e : SE) : SS := fun ρ => match conM ρ i with
  | none => none
  | some _ => match e ρ with
    | some (d, ρ1) => match conM ρ1 i with
      | some xs => if xs.length < LN then some (.nx, setM ρ1 i (xs ++ [d])) else none
      | none => none
    | none => none
/-- name[k] = e -/
def kPut (i : Nat) (k e : SE) : SS := fun ρ => match e ρ with
  | some (d, ρ1) => match conM ρ1 i with
    | none => none
    | some _ => match k ρ1 with
      | some (.int j, ρ2) => match conM ρ2 i with
        | some xs => match ixN xs.length j with
          | some n => some (.nx, setM ρ2 i (xs.set n d))
          | none => none
        | none => none
      | _ => none
  | none => none
section
variable {c : Ctx} {X : Cx}
/-- a new list at p, held by slot i -/
theorem Ok.fresh {F H : Hp} {σ : L2.St} {ρ : Rho} {p : Addr} {us : List V} {xs : List D} (I : Ok c F H σ ρ) (hp : H p = none) (r : Reps c.G F us xs) (i : Nat) : Ok c F (upd H p (.lst us)) (σ.set i (some (V.ref p))) (ρ.set i (.own xs)) := by
  have hF : F p = none := ext_none I.fh hp
  have h0 : c.H0 p = none := by
    cases z : c.H0 p with
    | none => rfl
    | some o => obtain ⟨o', z'⟩ := I.al p o z; rw [hp] at z'; cases z'
  have J := I.grow (Grow.raw (o := .lst us) I.fh hp)
  have ap : ∀ (j : Nat) (s : Sl) (q : Addr), ρ[j]? = some s → s.mut = true → σ[j]? = some (some (V.ref q)) → q ≠ p := fun j s q hs hm hq z => by
    subst z
    obtain ⟨ov, h1, h2⟩ := I.sl j s hs
    rw [hq] at h1; cases h1
    cases s with
    | no => cases hm
    | val d => cases hm
    | own ys => obtain ⟨q, e, _, _, vs, a3, _⟩ := h2; cases e; rw [hp] at a3; cases a3
    | bor ys => obtain ⟨q, e, _, _, vs, a3, _⟩ := h2; cases e; rw [hp] at a3; cases a3
    | slf k ys => obtain ⟨q, e, _, _, dx, vs, a3, _⟩ := h2; cases e; rw [hp] at a3; cases a3
  refine ⟨by rw [List.length_set, List.length_set]; exact I.len, J.f0, J.fh, J.fr, J.al, J.n0, fun j s hs => ?_, fun a b s t pa qb ha hb ms mt hpa hqb e => ?_, J.hb⟩
  · by_cases hj : i = j
    · subst hj
      have hi : i < ρ.length := by
        have := (List.getElem?_eq_some_iff.mp hs).1
        rwa [List.length_set] at this
      rw [List.getElem?_set_self hi] at hs
      cases hs
      exact ⟨some (V.ref p), by rw [List.getElem?_set_self (by rw [I.len]; exact hi)], p, rfl, h0, hF, us, upd_same, r⟩
    · rw [List.getElem?_set_ne hj] at hs
      obtain ⟨ov, h1, h2⟩ := J.sl j s hs
      exact ⟨ov, by rw [List.getElem?_set_ne hj]; exact h1, h2⟩
  · by_cases ia : i = a
    · by_cases ib : i = b
      · exact ia.symm.trans ib
      · subst ia
        have hl : i < σ.length := by
          have := (List.getElem?_eq_some_iff.mp hpa).1
          rwa [List.length_set] at this
        rw [List.getElem?_set_self hl] at hpa
        cases hpa
        rw [List.getElem?_set_ne ib] at hb hqb
        exact absurd e.symm (ap b t qb hb mt hqb)
    · rw [List.getElem?_set_ne ia] at ha hpa
      by_cases ib : i = b
      · subst ib
        have hl : i < σ.length := by
          have := (List.getElem?_eq_some_iff.mp hqb).1
          rwa [List.length_set] at this
        rw [List.getElem?_set_self hl] at hqb
        cases hqb
        exact absurd e (ap a s pa ha ms hpa)
      · rw [List.getElem?_set_ne ib] at hb hqb
        exact I.ap a b s t pa qb ha hb ms mt hpa hqb e
/-- a slot's list has changed in place -/
theorem Ok.changed {F H : Hp} {σ : L2.St} {ρ : Rho} {i : Nat} {xs ys : List D} {p : Addr} {us ws : List V} (I : Ok c F H σ ρ) (hx : conM ρ i = some xs) (hσ : σ[i]? = some (some (V.ref p))) (hp : H p = some (.lst us)) (hF : F p = none) (r : Reps c.G F ws ys) :
    Ok c F (upd H p (.lst ws)) σ (setM ρ i ys) := by
  refine I.lent hx hσ ⟨Ext.rfl', fun q o e => ?_, fun q o e n => ?_, fun q o e => ?_, fun q o _ n => n⟩ hF upd_same r
  · have : q ≠ p := fun z => by subst z; rw [hF] at e; cases e
    rw [upd_ne this]; exact I.fh q o e
  · have : q ≠ p := fun z => n (by rw [z]; exact List.mem_singleton.mpr rfl)
    rw [upd_ne this]; exact e
  · by_cases z : q = p
    · subst z; exact ⟨_, upd_same⟩
    · exact ⟨o, by rw [upd_ne z]; exact e⟩
theorem vs_own {i : Nat} {x : Str} {es : List Expr} {a : SA} {p1 pos pos' : Pos} (hN : X.N.Nodup) (ha : PA X es (va c a)) (hi : X.N[i]? = some x := by rfl) (hx : Loc X.env.scope x := by first | exact Or.inl rfl | exact Or.inr rfl) (hs : swapsWith (.List es p1) (some (.Name x pos')) pos.line X.env = pure false := by rfl) (hf : X.fn x = true ∨ X.env.scope.names.lookup x = some .local := by first | exact .inl rfl | exact .inr rfl) :
    PS X (.Assign [.Name x pos'] (.List es p1) pos) (vs c (kOwn i a)) :=
  ps_of (ps_set hN hi hx (pe_lst ha) hs hf) fun σ H E ⟨F, ρ, I, fl, ρ', e, q⟩ => by
    unfold kOwn at e
    split at e
    · rename_i xs ρ1 e1
      split at e
      · rename_i hl
        cases e
        refine ⟨F, ρ, I, xs, ρ1, e1, fun us H1 F1 x1 I1 r1 => ⟨by rw [r1.length]; exact ln_fit hl, fun p hp => ?_⟩⟩
        exact q _ _ _ x1 (I1.fresh hp r1 i)
      · cases e
    · cases e
theorem vs_app {i : Nat} {x : Str} {e : Expr} {s : SE} {p0 apos cpos pos : Pos} (h : PE X (.Name x p0) (tVar i)) (he : PE X e (vt c s))
    (hbase : attributeBase (.Name x p0) "append" X.env (eval (.Name x p0) X.env) = eval (.Name x p0) X.env := by rfl)
    (hfew : ((backTo cpos (starEach [e] X.env)).all (fun x => !x.1) && (backToKw cpos (keywordEach [] X.env)).all (fun x => x.1.isSome)
      && decide ([e].length + ([] : List Keyword).length + (if ([] : List Keyword).isEmpty then 0 else 1) < 30)) = true := by rfl)
    (hline : (apos.endLine == cpos.line) = true := by rfl) (hst : starEach [e] X.env = (false, eval e X.env) :: starEach [] X.env := by rfl) (hpl : (backTo cpos (starEach [] X.env)).any (·.1) = false := by rfl)
    (hs : swapsWith (.Call (.Attribute (.Name x p0) "append" apos) [e] [] cpos) none pos.line X.env = pure false := by rfl) :
    PS X (.Expr (.Call (.Attribute (.Name x p0) "append" apos) [e] [] cpos) pos) (vs c (kApp i s)) :=
  ps_of (ps_expr (pe_bm PySem.F.plainAttrs_list PySem.F.slot_list_append PySem.F.type_list_append (id := "list.append") (fun pins s σ H x xs v us Q I rx rv q => mt_append pins s σ H x xs v us Q I rx rv q) h (pa_cons he pa_nil hst) hbase hfew hline hst hpl) hs) fun σ H E ⟨F, ρ, I, fl, ρ', e, q⟩ => by
    unfold kApp at e
    split at e
    · cases e
    · rename_i xs0 e0
      obtain ⟨p, us0, g1, g2, _⟩ := I.own e0
      split at e
      · rename_i d ρ1 e1
        split at e
        · rename_i xs e2
          split at e
          · rename_i hl
            cases e
            refine ⟨_, g1, .inl ⟨rfl, _, .of g2⟩, F, ρ, I, d, ρ1, e1, fun v H1 F1 x1 I1 r1 => ?_⟩
            obtain ⟨p', us, k1, k2, k3, k4⟩ := I1.own e2
            rw [g1] at k1; cases k1
            refine ⟨_, us, v, rfl, rfl, k2, by rw [k4.length]; exact Nat.lt_of_lt_of_le hl (ln_fit (Nat.le_refl _)), ?_⟩
            exact q _ _ _ x1 (I1.changed e2 g1 k2 k3 (k4.append (.one r1)))
          · cases e
        · cases e
      · cases e
theorem Reps.setAt {G : Gx} {F : Hp} {vs : List V} {ds : List D} {v : V} {d : D} (r : Reps G F vs ds) (h : Rep G F v d) (n : Nat) : Reps G F (vs.set n v) (ds.set n d) := Reps.set h n r
theorem vs_put {i : Nat} {x : Str} {k e : Expr} {sk s : SE} {p0 tpos pos : Pos} (h : PE X (.Name x p0) (tVar i)) (hk : PE X k (vt c sk)) (he : PE X e (vt c s))
    (ha : ∀ v, assign (.Subscript (.Name x p0) k tpos) X.env v = (do
      let ov ← holding [v] (eval (.Name x p0) X.env)
      let iv ← holding [v, ov] (eval k X.env)
      standAt tpos
      holding [v, ov, iv] (setItem ov iv v)
      release [v, ov, iv] []) := by intro _; rfl)
    (hs : swapsWithSole [.Subscript (.Name x p0) k tpos] e pos.line X.env = pure false := by rfl) (hw : swappedStores [.Subscript (.Name x p0) k tpos] e X.env = pure none := by rfl)
    (h1 : (assignEach [.Subscript (.Name x p0) k tpos] X.env).map (·.2) = [assign (.Subscript (.Name x p0) k tpos) X.env] := by rfl) :
    PS X (.Assign [.Subscript (.Name x p0) k tpos] e pos) (vs c (kPut i sk s)) :=
  ps_of (ps_asg he (pg_sub h hk set_list ha) hs hw h1) fun σ H E ⟨F, ρ, I, fl, ρ', e, q⟩ => by
    unfold kPut at e
    split at e
    · rename_i d ρ1 e1
      split at e
      · cases e
      · rename_i xs0 e0
        split at e
        · rename_i j ρ2 e2
          split at e
          · rename_i xs e3
            split at e
            · rename_i n e4
              cases e
              refine ⟨F, ρ, I, d, ρ1, e1, fun v H1 F1 x1 I1 r1 => ?_⟩
              obtain ⟨p, us0, g1, g2, _⟩ := I1.own e0
              refine ⟨_, g1, F1, ρ1, I1, _, ρ2, e2, fun w H2 F2 x2 I2 r2 => ?_⟩
              cases r2
              obtain ⟨p', us, k1, k2, k3, k4⟩ := I2.own e3
              rw [g1] at k1; cases k1
              refine ⟨_, us, j, n, rfl, rfl, k2, by rw [k4.length]; exact e4, ?_⟩
              exact q _ _ _ (x1.trans x2) (I2.changed e3 g1 k2 k3 (k4.setAt (r1.ext x2) n))
            · cases e
          · cases e
        · cases e
    · cases e
/-! a, b = .. -/
/-- a tuple's items -/
def kTup (is : List Nat) (e : SE) : SS := fun ρ => match e ρ with
  | some (.tup ds, ρ1) => match sets is ds ρ1 with
    | some ρ2 => some (.nx, ρ2)
    | none => none
  | _ => none
theorem vs_tup {es : List Expr} {k : Nat} {e : Expr} {s : SE} {tpos pos : Pos} (is : List Nat) (he : PE X e (vt c s)) (hg : PG X (.Tuple es k tpos) (gT X.K (.tp is)))
    (hs : swapsWithSole [.Tuple es k tpos] e pos.line X.env = pure false := by rfl) (hw : swappedStores [.Tuple es k tpos] e X.env = pure none := by rfl) (h1 : (assignEach [.Tuple es k tpos] X.env).map (·.2) = [assign (.Tuple es k tpos) X.env] := by rfl) :
    PS X (.Assign [.Tuple es k tpos] e pos) (vs c (kTup is s)) :=
  ps_of (ps_asg he hg hs hw h1) fun σ H E ⟨F, ρ, I, fl, ρ', e, q⟩ => by
    unfold kTup at e
    split at e
    · rename_i ds ρ1 e1
      split at e
      · rename_i ρ2 e2
        cases e
        exact ⟨F, ρ, I, _, ρ1, e1, fun v H1 F1 x1 I1 r1 => tgt_w (t := .tp is) I1 r1 e2 fun σ' I' _ => q _ _ _ x1 I'⟩
      · cases e
    · cases e
/-- plain local names: stored without a tuple -/
def kPar (is : List Nat) (a : SA) : SS := fun ρ => match a ρ with
  | some (ds, ρ1) => match sets is ds ρ1 with
    | some ρ2 => some (.nx, ρ2)
    | none => none
  | none => none
theorem vs_par2 {i j : Nat} {x y : Str} {a b : Expr} {sa : SA} {px py pt pos : Pos} {kt k2 pt2} (hc : X.calm = true) (hN : X.N.Nodup) (ha : PA X [a, b] (va c sa)) (hw : swappedStores [.Tuple [.Name x px, .Name y py] kt pt] (.Tuple [a, b] k2 pt2) X.env = pure (some [x, y]))
    (hi : X.N[i]? = some x := by rfl) (hj : X.N[j]? = some y := by rfl) (hij : i ≠ j := by decide)
    (hx : X.env.scope.names.lookup x = some .local := by rfl) (hy : X.env.scope.names.lookup y = some .local := by rfl)
    (hs : swapsWithSole [.Tuple [.Name x px, .Name y py] kt pt] (.Tuple [a, b] k2 pt2) pos.line X.env = pure false := by rfl) :
    PS X (.Assign [.Tuple [.Name x px, .Name y py] kt pt] (.Tuple [a, b] k2 pt2) pos) (vs c (kPar [i, j] sa)) :=
  ps_of (ps_par hc hN hi hj hij hx hy ha hw hs) fun σ H E ⟨F, ρ, I, fl, ρ', e, q⟩ => by
    unfold kPar at e
    split at e
    · rename_i ds ρ1 e1
      split at e
      · rename_i ρ2 e2
        cases e
        refine ⟨F, ρ, I, ds, ρ1, e1, fun us H1 F1 x1 I1 r1 => ?_⟩
        have hl := sets_len e2
        match ds, hl, e2, r1 with
        | [d1, d2], _, e2, r1 =>
          obtain ⟨v, v', ev, r, r'⟩ := reps2 r1
          refine ⟨v, v', ev, ?_⟩
          simp only [sets] at e2
          cases e2
          exact q _ _ _ x1 ((I1.put i r).put j r')
      · cases e
    · cases e
theorem vs_par3 {i j l : Nat} {x y z : Str} {a b d : Expr} {sa : SA} {px py pz pt pos : Pos} {kt k2 pt2} (hc : X.calm = true) (hN : X.N.Nodup) (ha : PA X [a, b, d] (va c sa)) (hw : swappedStores [.Tuple [.Name x px, .Name y py, .Name z pz] kt pt] (.Tuple [a, b, d] k2 pt2) X.env = pure (some [x, y, z]))
    (hi : X.N[i]? = some x := by rfl) (hj : X.N[j]? = some y := by rfl) (hl : X.N[l]? = some z := by rfl) (hij : i ≠ j := by decide) (hil : i ≠ l := by decide) (hjl : j ≠ l := by decide)
    (hx : X.env.scope.names.lookup x = some .local := by rfl) (hy : X.env.scope.names.lookup y = some .local := by rfl) (hz : X.env.scope.names.lookup z = some .local := by rfl)
    (hs : swapsWithSole [.Tuple [.Name x px, .Name y py, .Name z pz] kt pt] (.Tuple [a, b, d] k2 pt2) pos.line X.env = pure false := by rfl) :
    PS X (.Assign [.Tuple [.Name x px, .Name y py, .Name z pz] kt pt] (.Tuple [a, b, d] k2 pt2) pos) (vs c (kPar [i, j, l] sa)) :=
  ps_of (ps_par3 hc hN hi hj hl hij hil hjl hx hy hz ha hw hs) fun σ H E ⟨F, ρ, I, fl, ρ', e, q⟩ => by
    unfold kPar at e
    split at e
    · rename_i ds ρ1 e1
      split at e
      · rename_i ρ2 e2
        cases e
        refine ⟨F, ρ, I, ds, ρ1, e1, fun us H1 F1 x1 I1 r1 => ?_⟩
        have hl := sets_len e2
        match ds, hl, e2, r1 with
        | [d1, d2, d3], _, e2, r1 =>
          obtain ⟨v, v', v2, ev, r, r', r2⟩ := reps3 r1
          refine ⟨v, v', v2, ev, ?_⟩
          simp only [sets] at e2
          cases e2
          exact q _ _ _ x1 (((I1.put i r).put j r').put l r2)
      · cases e
    · cases e
/-- found, b = [..], e: the first one to be changed -/
def kParO (i j : Nat) (a : SA) (e : SE) : SS := fun ρ => match a ρ with
  | some (xs, ρ1) => if xs.length ≤ LN then match e ρ1 with
    | some (d, ρ2) => some (.nx, (ρ2.set j (.val d)).set i (.own xs))
    | none => none
    else none
  | none => none
end
end VS

set_option Elab.async false
set_option linter.all false
set_option maxRecDepth 100000
set_option maxHeartbeats 4000000
namespace VS
open PySem PySem.Spec PyProof.Rows L2

/-! a def that hands back a new list, to be changed by its caller -/
def kRetL (a : SA) : SS := fun ρ => match a ρ with
  | some (xs, ρ1) => if xs.length ≤ LN then some (.rm xs, ρ1) else none
  | none => none
abbrev MirM := List Sl → Option (List D)
def mirM (n : Nat) (s : SS) : MirM := fun sl => match s (sl ++ List.replicate (n - sl.length) .no) with
  | some (.rm xs, _) => some xs
  | _ => none
def spM (G : Gx) (n : Nat) (m : MirM) : Sp := fun vs H Q _ => ∃ F ds, Ext F H ∧ Reps G F vs ds ∧ ds.length = n ∧ ∃ xs, m (ds.map .val) = some xs ∧
  ∀ p us H' F', Keep [] F H F' H' → H p = none → F' p = none → H' p = some (.lst us) → Reps G F' us xs → Q (.ref p) H'
structure CalM (P : Program) (w : World) (G : Gx) (mg : Str → Option Value) (base : Heap) (x : Str) (k n : Nat) (m : MirM) : Prop where
  ex : ∃ (f : Addr) (fd : FuncData) (ps : List Str), mg x = some (.ref f) ∧ PySem.W.keepIn G.K (.ref f) = true ∧ Binds G.K fd ps [] ∧ FnOk P w G.K mg base CX0 k f fd ps (spM G n m)
theorem fn_okM {P : Program} {w : World} {G : Gx} {mg : Str → Option Value} {base : Heap} {x qual : Str} {st : Stmt} {f : Addr} {fd : FuncData} {N ps : List Str} {k : Nat} {s : SS} (F : Fun G.K x qual st f fd) (S : FnScope N ps (defScope st))
    (hb : ∀ (c : Ctx) (cdv : Value) (A : Around) (outer : List Env) (sh : Shared) (H : Hp) (E : XK), c.G = G → Room k (A.deeper (envOfC qual (defScope st) sh.heap.objs.size f cdv)) →
      PSs (cxOf CX0 P w G.K mg base N qual (defScope st) f cdv A outer sh H E).nox (defBody st) (vs c s)) :
    FnOk P w G.K mg base CX0 (k + 1) f fd ps (spM G ps.length (mirM N.length s)) := by
  refine F.ok S (fun us H Q E h => ?_) (fun cdv A outer sh H us Q E hr h => ?_)
  · obtain ⟨F0, ds, _, a, hn, _⟩ := h
    rw [a.length, hn]
  · obtain ⟨F0, ds, e, a, hn, xs, hm, q⟩ := h
    refine ⟨vs ⟨G, F0, H, []⟩ s, hb _ cdv A outer sh H E rfl hr, ?_⟩
    unfold mirM at hm
    split at hm
    · rename_i xs' ρ h1
      cases hm
      have hl := a.length
      refine ⟨F0, _, (by have := ok_start e (.vals a) (N.length - (ds.map Sl.val).length); unfold L2.start; rw [hl, ← List.length_map (f := Sl.val) (as := ds)]; exact this), .rm xs, ρ, h1, ?_⟩
      exact fun p us σ H' F' x I a1 a2 a3 r => q p us H' F' ⟨I.f0, I.fh, fun p o h n => I.fr p o h n, I.al, I.n0⟩ a1 a2 a3 r
    · cases hm
section
variable {c : Ctx} {X : Cx}
theorem vs_retL {es : List Expr} {a : SA} {p1 pos : Pos} (ha : PA X es (va c a)) : PS X (.Return (some (.List es p1)) pos) (vs c (kRetL a)) :=
  ps_of (ps_ret (pe_lst ha)) fun σ H E ⟨F, ρ, I, fl, ρ', e, q⟩ => by
    unfold kRetL at e
    split at e
    · rename_i xs ρ1 e1
      split at e
      · rename_i hl
        cases e
        refine ⟨F, ρ, I, xs, ρ', e1, fun us H1 F1 x1 I1 r1 => ⟨by rw [r1.length]; exact ln_fit hl, fun p hp => ?_⟩⟩
        have h0 : c.H0 p = none := by
          cases z : c.H0 p with
          | none => rfl
          | some o => obtain ⟨o', z'⟩ := I1.al p o z; rw [hp] at z'; cases z'
        exact q p us σ _ F1 x1 (I1.grow (Grow.raw I1.fh hp)) h0 (ext_none I1.fh hp) upd_same r1
      · cases e
    · cases e
/-- name = f(..), the new list to be changed -/
def kOwnC (i n : Nat) (m : MirM) (a : SA) : SS := fun ρ => match a ρ with
  | some (xs, ρ1) => if xs.length = n then match m (xs.map .val) with
    | some ys => some (.nx, ρ1.set i (.own ys))
    | none => none
    else none
  | none => none
/-- a slot gets a new list that stands at p -/
theorem Ok.take {F H : Hp} {σ : L2.St} {ρ : Rho} {p : Addr} {us : List V} {xs : List D} (I : Ok c F H σ ρ) (hF : F p = none) (hp : H p = some (.lst us)) (h0 : c.H0 p = none) (ap : ∀ (j : Nat) (s : Sl) (q : Addr), ρ[j]? = some s → s.mut = true → σ[j]? = some (some (V.ref q)) → q ≠ p) (r : Reps c.G F us xs) (i : Nat) :
    Ok c F H (σ.set i (some (V.ref p))) (ρ.set i (.own xs)) := by
  refine ⟨by rw [List.length_set, List.length_set]; exact I.len, I.f0, I.fh, I.fr, I.al, I.n0, fun j s hs => ?_, fun a b s t pa qb ha hb ms mt hpa hqb e => ?_, I.hb⟩
  · by_cases hj : i = j
    · subst hj
      have hi : i < ρ.length := by
        have := (List.getElem?_eq_some_iff.mp hs).1
        rwa [List.length_set] at this
      rw [List.getElem?_set_self hi] at hs
      cases hs
      exact ⟨some (V.ref p), by rw [List.getElem?_set_self (by rw [I.len]; exact hi)], p, rfl, h0, hF, us, hp, r⟩
    · rw [List.getElem?_set_ne hj] at hs
      obtain ⟨ov, h1, h2⟩ := I.sl j s hs
      exact ⟨ov, by rw [List.getElem?_set_ne hj]; exact h1, h2⟩
  · by_cases ia : i = a
    · by_cases ib : i = b
      · exact ia.symm.trans ib
      · subst ia
        have hl : i < σ.length := by
          have := (List.getElem?_eq_some_iff.mp hpa).1
          rwa [List.length_set] at this
        rw [List.getElem?_set_self hl] at hpa
        cases hpa
        rw [List.getElem?_set_ne ib] at hb hqb
        exact absurd e.symm (ap b t qb hb mt hqb)
    · rw [List.getElem?_set_ne ia] at ha hpa
      by_cases ib : i = b
      · subst ib
        have hl : i < σ.length := by
          have := (List.getElem?_eq_some_iff.mp hqb).1
          rwa [List.length_set] at this
        rw [List.getElem?_set_self hl] at hqb
        cases hqb
        exact absurd e (ap a s pa ha ms hpa)
      · rw [List.getElem?_set_ne ib] at hb hqb
        exact I.ap a b s t pa qb ha hb ms mt hpa hqb e
/-- what is no address of the heap is no slot's -/
theorem Ok.no_slot {F H : Hp} {σ : L2.St} {ρ : Rho} (I : Ok c F H σ ρ) {p : Addr} (hp : H p = none) : ∀ (j : Nat) (s : Sl) (q : Addr), ρ[j]? = some s → s.mut = true → σ[j]? = some (some (V.ref q)) → q ≠ p := fun j s q hs hm hq z => by
  subst z
  obtain ⟨ov, h1, h2⟩ := I.sl j s hs
  rw [hq] at h1; cases h1
  cases s with
  | no => cases hm
  | val d => cases hm
  | own ys => obtain ⟨q, e, _, _, vs, a3, _⟩ := h2; cases e; rw [hp] at a3; cases a3
  | bor ys => obtain ⟨q, e, _, _, vs, a3, _⟩ := h2; cases e; rw [hp] at a3; cases a3
  | slf k ys => obtain ⟨q, e, _, _, dx, vs, a3, _⟩ := h2; cases e; rw [hp] at a3; cases a3
theorem Ok.no_H0 {F H : Hp} {σ : L2.St} {ρ : Rho} (I : Ok c F H σ ρ) {p : Addr} (hp : H p = none) : c.H0 p = none := by
  cases z : c.H0 p with
  | none => rfl
  | some o => obtain ⟨o', z'⟩ := I.al p o z; rw [hp] at z'; cases z'
theorem vs_ownC {i : Nat} {x f : Str} {e : Expr} {es : List Expr} {a : SA} {k n : Nat} {m : MirM} {p cpos pos pos' : Pos} (C : CalM X.prog X.w c.G X.mg X.base f k n m) (hK : X.K = c.G.K) (hr : Room k X.A) (hN : X.N.Nodup) (ha : PA X (e :: es) (va c a)) (hg : Gl X f := by rfl) (hdb : (f == ("__debug__" : Str)) = false := by decide)
    (he : starEach (e :: es) X.env = (false, eval e X.env) :: starEach es X.env := by rfl) (hpl : (backTo cpos (starEach es X.env)).any (·.1) = false := by rfl)
    (hi : X.N[i]? = some x := by rfl) (hx : Loc X.env.scope x := by first | exact Or.inl rfl | exact Or.inr rfl) (hs : swapsWith (.Call (.Name f p) (e :: es) [] cpos) (some (.Name x pos')) pos.line X.env = pure false := by rfl) (hf : X.fn x = true ∨ X.env.scope.names.lookup x = some .local := by first | exact .inl rfl | exact .inr rfl) :
    PS X (.Assign [.Name x pos'] (.Call (.Name f p) (e :: es) [] cpos) pos) (vs c (kOwnC i n m a)) := by
  obtain ⟨fa, fd, ps, hm, hk, hb, hF⟩ := C.ex
  rw [← hK] at hk hb hF
  refine ps_of (ps_set hN hi hx (pe_call hF hr hg hm hk hb .nil pass0 ha hdb he hpl) hs hf) fun σ H E ⟨F, ρ, I, fl, ρ', e, q⟩ => ?_
  unfold kOwnC at e
  split at e
  · rename_i xs ρ1 e1
    split at e
    · rename_i hn
      split at e
      · rename_i ys e2
        cases e
        refine ⟨F, ρ, I, xs, ρ1, e1, fun us H1 F1 x1 I1 r1 => ?_⟩
        show spM c.G n m (us ++ []) H1 _ E0
        rw [List.append_nil]
        refine ⟨F1, xs, I1.fh, r1, hn, ys, e2, fun p ws H2 F2 k2 h1 h2 h3 r2 => ?_⟩
        exact q _ H2 F2 (x1.trans k2.f) ((I1.grow k2.grow).take h2 h3 (I1.no_H0 h1) (I1.no_slot h1) r2 i)
      · cases e
    · cases e
  · cases e

/-! x, found = e, [..] and found, x = [..], e -/
def kParR (i j : Nat) (e : SE) (a : SA) : SS := fun ρ => match e ρ with
  | some (d, ρ1) => match a ρ1 with
    | some (xs, ρ2) => if xs.length ≤ LN then some (.nx, (ρ2.set i (.val d)).set j (.own xs)) else none
    | none => none
  | none => none
theorem vs_parR {i j : Nat} {x y : Str} {a : Expr} {es : List Expr} {s : SE} {sa : SA} {px py pt p1 pos : Pos} {kt k2 pt2} (hc : X.calm = true) (hN : X.N.Nodup) (ha : PE X a (vt c s)) (hl : PA X es (va c sa)) (hw : swappedStores [.Tuple [.Name x px, .Name y py] kt pt] (.Tuple [a, .List es p1] k2 pt2) X.env = pure (some [x, y]))
    (hi : X.N[i]? = some x := by rfl) (hj : X.N[j]? = some y := by rfl) (hij : i ≠ j := by decide)
    (hx : X.env.scope.names.lookup x = some .local := by rfl) (hy : X.env.scope.names.lookup y = some .local := by rfl)
    (h1 : starEach [a, .List es p1] X.env = (false, eval a X.env) :: starEach [.List es p1] X.env := by rfl) (h2 : starEach [.List es p1] X.env = (false, eval (.List es p1) X.env) :: starEach [] X.env := by rfl)
    (hs : swapsWithSole [.Tuple [.Name x px, .Name y py] kt pt] (.Tuple [a, .List es p1] k2 pt2) pos.line X.env = pure false := by rfl) :
    PS X (.Assign [.Tuple [.Name x px, .Name y py] kt pt] (.Tuple [a, .List es p1] k2 pt2) pos) (vs c (kParR i j s sa)) :=
  ps_of (ps_par hc hN hi hj hij hx hy (pa_cons ha (pa_cons (pe_lst hl) pa_nil h2) h1) hw hs) fun σ H E ⟨F, ρ, I, fl, ρ', e, q⟩ => by
    unfold kParR at e
    split at e
    · rename_i d ρ1 e1
      split at e
      · rename_i xs ρ2 e2
        split at e
        · rename_i hl
          cases e
          refine ⟨F, ρ, I, d, ρ1, e1, fun v H1 F1 x1 I1 r1 => ⟨F1, ρ1, I1, xs, ρ2, e2, fun us H2 F2 x2 I2 r2 => ⟨by rw [r2.length]; exact ln_fit hl, fun p hp => ⟨v, .ref p, rfl, ?_⟩⟩⟩⟩
          exact q _ _ _ (x1.trans x2) ((I2.put i (r1.ext x2)).fresh hp r2 j)
        · cases e
      · cases e
    · cases e
def kParL (i j : Nat) (a : SA) (e : SE) : SS := fun ρ => match a ρ with
  | some (xs, ρ1) => if xs.length ≤ LN then match e (blkR [] ρ1) with
    | some (d, ρ2) => match restore ρ1 ρ2 with
      | some r => some (.nx, (r.set j (.val d)).set i (.own xs))
      | none => none
    | none => none
    else none
  | none => none
theorem vs_parL {i j : Nat} {x y : Str} {a : Expr} {es : List Expr} {s : SE} {sa : SA} {px py pt p1 pos : Pos} {kt k2 pt2} (hc : X.calm = true) (hN : X.N.Nodup) (hl : PA X es (va c sa)) (ha : ∀ F0 H0 B, PE X a (vt ⟨c.G, F0, H0, B⟩ s)) (hw : swappedStores [.Tuple [.Name x px, .Name y py] kt pt] (.Tuple [.List es p1, a] k2 pt2) X.env = pure (some [x, y]))
    (hi : X.N[i]? = some x := by rfl) (hj : X.N[j]? = some y := by rfl) (hij : i ≠ j := by decide)
    (hx : X.env.scope.names.lookup x = some .local := by rfl) (hy : X.env.scope.names.lookup y = some .local := by rfl)
    (h1 : starEach [.List es p1, a] X.env = (false, eval (.List es p1) X.env) :: starEach [a] X.env := by rfl) (h2 : starEach [a] X.env = (false, eval a X.env) :: starEach [] X.env := by rfl)
    (hs : swapsWithSole [.Tuple [.Name x px, .Name y py] kt pt] (.Tuple [.List es p1, a] k2 pt2) pos.line X.env = pure false := by rfl) :
    PS X (.Assign [.Tuple [.Name x px, .Name y py] kt pt] (.Tuple [.List es p1, a] k2 pt2) pos) (vs c (kParL i j sa s)) :=
  ps_of (ps_par hc hN hi hj hij hx hy (pa_cons (pe_lst hl) (pa_cons (pe_X ha) pa_nil h2) h1) hw hs) fun σ H E ⟨F, ρ, I, fl, ρ', e, q⟩ => by
    unfold kParL at e
    split at e
    · rename_i xs ρ1 e1
      split at e
      · rename_i hl
        split at e
        · rename_i d ρ2 e2
          split at e
          · rename_i r e3
            cases e
            refine ⟨F, ρ, I, xs, ρ1, e1, fun us H1 F1 x1 I1 r1 => ⟨by rw [r1.length]; exact ln_fit hl, fun p hp => ?_⟩⟩
            have h0 := I1.no_H0 hp
            have hF := ext_none I1.fh hp
            have I2 := I1.grow (Grow.raw (o := .lst us) I1.fh hp)
            have J := I2.enter []
            have np : p ∉ mutA σ ρ1 := fun hm => by
              obtain ⟨j, zs, k1, k2⟩ := mem_mutA.mp hm
              rcases k1 with k1 | k1
              · exact I1.no_slot hp j _ p k1 rfl k2 rfl
              · exact I1.no_slot hp j _ p k1 rfl k2 rfl
            refine ⟨F1, _, mutA σ ρ1, F1, blkR [] ρ1, J, d, ρ2, e2, fun v H3 F3 x3 J3 r3 => ⟨.ref p, v, rfl, ?_⟩⟩
            have I3 := I2.leave J3 (rfl : wipe σ [] = wipe σ []) e3 (fun _ _ _ _ _ => by simp)
            have hp3 : H3 p = some (.lst us) := J3.fr p _ upd_same np
            have hF3 : F3 p = none := J3.n0 p _ upd_same hF
            have sep : ∀ (j : Nat) (s : Sl) (q : Addr), r[j]? = some s → s.mut = true → σ[j]? = some (some (V.ref q)) → q ≠ p := fun j s q hs hm hq z => by
              obtain ⟨s0, z1, z2⟩ := restore_get e3 hs
              have m0 : s0.mut = true := by
                rcases z2 with ⟨z2, _⟩ | ⟨_, _, _, ⟨z3, _⟩ | ⟨z3, _⟩⟩
                · subst z2; exact hm
                · subst z3; rfl
                · subst z3; rfl
              exact I1.no_slot hp j s0 q z1 m0 hq z
            have rr := r1.ext x3
            have T := (I3.take hF3 hp3 h0 sep rr i).put j r3
            -- the order of the two stores
            have e5 : (σ.set i (some (V.ref p))).set j (some v) = (σ.set i (some (V.ref p))).set j (some v) := rfl
            have e6 : (r.set i (.own xs)).set j (.val d) = (r.set j (.val d)).set i (.own xs) := List.set_comm _ _ hij
            rw [e6] at T
            exact q _ _ _ (x1.trans x3) T
          · cases e
        · cases e
      · cases e
    · cases e
end
end VS

set_option Elab.async false
set_option linter.all false
set_option maxRecDepth 100000
set_option maxHeartbeats 8000000
namespace VS
open PySem PySem.Spec PyProof.Rows L2

/-! len(set(xs)), xs of ints or of texts -/
section
variable {κ : Type} [DecidableEq κ]
/-- the first i items, each once -/
def firsts (val : Nat → κ) : Nat → List κ
  | 0 => []
  | i + 1 => if val i ∈ firsts val i then firsts val i else firsts val i ++ [val i]
theorem firsts_le (val : Nat → κ) : ∀ i, (firsts val i).length ≤ i
  | 0 => Nat.le_refl _
  | i + 1 => by
    have := firsts_le val i
    unfold firsts
    split
    · omega
    · rw [List.length_append]; simp; omega
end
section
variable {κ : Type} [DecidableEq κ] [BEq κ] [LawfulBEq κ] {prog : Program} {w : World} {A : Around} {knd : KeyKind prog w κ}
/-- the update's loop, key by key -/
theorem upd_turns {R : Result → Shared → Prop} {it a : Addr} {fp wr : List Addr} {Gn : Array GenState → Array GenState → Prop} {n : Nat} {Pv : Nat → Value → Prop} {St : Nat → Shared → Prop}
    (W : WalksS prog w A.in1 it fp wr Gn n Pv St) (out : a ∉ fp) (val : Nat → κ) (keyed : ∀ i v, Pv i v → knd.is (val i) v = true ∧ v.scannable = true) (few : n + 1 < scanBound)
    (left : Nat) :
    ∀ (i : Nat) (s : Shared), left = n - i → i ≤ n → St i s → s.heap.SetOf knd a (fun k => decide (k ∈ firsts val i)) (firsts val i).length →
      (∀ s', Moved (a :: wr) Gn s s' → s'.heap.SetOf knd a (fun k => decide (k ∈ firsts val n)) (firsts val n).length → R (.ok (.ret .none)) s') →
      codeAny (model prog w) A (.builtin "set.update.loop" ⟨[.ref a, .ref it], []⟩) R s := by
  have outw : a ∉ wr := fun z => out (W.sub a z)
  have wide : ∀ b ∈ wr, b ∈ a :: wr := fun _ z => List.mem_cons_of_mem _ z
  induction left with
  | zero =>
    intro i s e1 e2 st hS fin
    obtain rfl : i = n := by omega
    refine codeAny_builtin PyProof.Rows.F.entry_set_update_loop ?_
    rw [Around.under_plainId PyProof.Rows.F.plain_set_update_loop _]
    change wpAny _ A.in1 (pyNext (.ref it) >>= _) _ _ s
    refine wpAny_bind (W.done s _ _ st ?_)
    intro s' mv
    have hS' : s'.heap.SetOf knd a (fun k => decide (k ∈ firsts val i)) (firsts val i).length := by
      rcases hS with ⟨o, es, ep, t, ho, more⟩
      exact ⟨o, es, ep, t, mv.heap a o outw ho, more⟩
    exact wpAny_pure (fin s' (mv.mono wide) hS')
  | succ left again =>
    intro i s e1 e2 st hS fin
    have lt : i < n := by omega
    refine codeAny_builtin PyProof.Rows.F.entry_set_update_loop ?_
    rw [Around.under_plainId PyProof.Rows.F.plain_set_update_loop _]
    change wpAny _ A.in1 (pyNext (.ref it) >>= _) _ _ s
    refine wpAny_bind (W.item i s _ _ lt st ?_)
    intro v s' hv st' mv
    obtain ⟨kv, sv⟩ := keyed i v hv
    have hS' : s'.heap.SetOf knd a (fun k => decide (k ∈ firsts val i)) (firsts val i).length := by
      rcases hS with ⟨o, es, ep, t, ho, more⟩
      exact ⟨o, es, ep, t, mv.heap a o outw ho, more⟩
    change wpAny _ A.in1 (holding [v] (setAdd a v) >>= _) _ _ s'
    refine wpAny_bind (wpAny_holding ?_)
    unfold setAdd
    refine wpAny_holding (wpAny_bind (knd.pyHash kv ?_))
    have room : (firsts val i).length + 1 < scanBound := by have := firsts_le val i; omega
    refine wpAny_setAddHashed_of (knd := knd) (s := { s' with toks := s'.toks + 1 }) kv sv hS' room ?_
    intro h' same hS2
    have e3 : (fun k => decide (k ∈ firsts val i) || decide (k = val i)) = fun k => decide (k ∈ firsts val (i + 1)) := by
      funext k
      by_cases z : val i ∈ firsts val i
      · have : firsts val (i + 1) = firsts val i := by rw [firsts, if_pos z]
        rw [this]
        by_cases y : k = val i
        · subst y; simp [z]
        · simp [y]
      · have : firsts val (i + 1) = firsts val i ++ [val i] := by rw [firsts, if_neg z]
        rw [this]
        simp [List.mem_append]
    have e4 : (if (fun k => decide (k ∈ firsts val i)) (val i) = true then (firsts val i).length else (firsts val i).length + 1) = (firsts val (i + 1)).length := by
      by_cases z : val i ∈ firsts val i
      · simp [firsts, z]
      · simp [firsts, z]
    have hS3 : h'.SetOf knd a (fun k => decide (k ∈ firsts val (i + 1))) (firsts val (i + 1)).length := PyProof.Rows.SetOf_congr hS2 (fun k => congrFun e3 k) e4
    have stay : ∀ b, b ≠ a → ∀ o, s'.heap.get? b = some o → h'.get? b = some o := fun b z o e => (same.2 b z).trans e
    refine wpAny_pure ⟨plainId_quiet PyProof.Rows.F.plain_set_update_loop _, again (i + 1) _ (by omega) lt (W.frame _ s' _ _ st' (Nat.le_succ _) fun b hb o e => stay b (fun z => out (z ▸ hb)) o e) hS3 ?_⟩
    intro s'' mv2 hS4
    refine fin s'' (Moved.trans W.gtrans ((mv.mono wide).then_heap (Nat.le_succ _) fun b o hb e => stay b (fun z => hb (by rw [z]; exact List.mem_cons_self)) o e) mv2) hS4
/-- set(xs), xs a list whose items are keys -/
theorem set_of_list0 {E : Value → Shared → Prop} {s : Shared} {l : Addr} {its : Array Value} (val : Nat → κ) {Q : Value → Shared → Prop} (calm : A.handled = none) (hl : s.heap.IsList l its)
    (keyed : ∀ (i : Nat) v, its[i]? = some v → knd.is (val i) v = true ∧ v.scannable = true) (few : its.size + 1 < scanBound)
    {Pst : Heap → Prop} (hPst : ∀ h' : Heap, h'.SetOf knd s.heap.objs.size (fun k => decide (k ∈ firsts val its.size)) (firsts val its.size).length → Pst h')
    (fin : ∀ h' tk, Pst h' → (∀ b o, b < s.heap.objs.size → s.heap.get? b = some o → h'.get? b = some o) → Q (.ref s.heap.objs.size) { s with heap := h', toks := tk }) :
    wpAny (model prog w) A (call (.type "set") [.ref l]) Q E s := by
  let nu : Bool → Obj := fun led => { cls := .type "set", dict := none, data := .set #[] 0 (.fresh 0 0 led) }
  obtain ⟨cc, tl, hmro⟩ := PySem.F.called_set.mro
  have a1 := PySem.F.called_set.made
  have a2 := PySem.F.called_set.sub
  have a3 := PySem.F.called_set.notType
  have a4 := PySem.F.called_set.canCreate
  have a5 := PySem.F.typeCall_set_1 (.ref l)
  refine wpAny_call (codeAny_of_tree ?_)
  change wpAny _ _ (callAny (.type "set") _) _ _ _
  refine wpAny_pure ⟨Code.quiet_builtin _ (by decide +kernel), codeAny_builtin PySem.F.entry_type_call ?_⟩
  rw [Around.under_plain (weight_type_call_type "set" [.ref l] []) rfl]
  repeat (any_goals (first | assumption | wp_step))
  refine codeAny_mono (PySem.code_set_new_1 (.ref l) (E := E) (Q₁ := fun ob s1 => ∃ led : Bool, ob = .ref s.heap.objs.size ∧ s1 = { s with heap := s.heap.push (nu led) }) fun led => ⟨led, rfl, rfl⟩) ?_
  intro r s1 hr
  cases r with
  | error e => exact hr
  | ok fl =>
    cases fl with
    | next => exact hr
    | brk => exact hr
    | cont => exact hr
    | ret ob =>
      obtain ⟨led, rfl, rfl⟩ := hr
      have new0 : (s.heap.push (nu led)).get? s.heap.objs.size = some (nu led) := Heap.get?_push_size _ rfl
      have ty0 : Shared.TypeIs { s with heap := s.heap.push (nu led) } (.ref s.heap.objs.size) "set" := ⟨_, new0, rfl⟩
      have b1 := PySem.F.called_set.init.lookup
      have b2 := PySem.F.called_set.init.bind (.ref s.heap.objs.size)
      repeat (any_goals (first | assumption | wp_step))
      refine codeAny_mono (codeAny_call_builtin (R := wants (fun r s2 => r = .none ∧ ∃ h' tk, s2 = { s with heap := h', toks := tk } ∧ Pst h' ∧ ∀ b o, b < s.heap.objs.size → s.heap.get? b = some o → h'.get? b = some o) E)
        PySem.F.called_set.init.plain PySem.F.entry_set_init (PySem.check_set_init_1 ty0 ?_)) ?_
      · obtain ⟨⟨k1, k2, k3, k4⟩, ho, kc, n, kd⟩ := hl
        simp only at kc kd
        subst kc kd
        have old : (s.heap.push (nu led)).get? l = some { cls := .type "list", dict := k2, data := .seq its n, slots := k4 } := Heap.get?_push_of_some _ ho
        have c1 := PySem.F.sub_list_set
        have c2 := PySem.F.sub_list_frozenset
        have c3 : (Value.type "list" == Value.type "dict") = false := by decide
        have here : (s.heap.push (nu led)).IsList l its := ⟨_, old, rfl, n, rfl⟩
        clear a1 a2 a3 a4 a5 b1 b2 hmro
        unfold Builtin.«set.__init__» noKeywords Builtin.Frozenset.updateFrom
        generalize hPI : pyIter = PI
        wp_walk
        subst hPI
        refine wpAny_pyIter_list here (wpAny_bind (wpAny_runValue ?_))
        have lt : l < s.heap.objs.size := Heap.lt_size ho
        have z1 : (s.heap.push (nu led)).objs.size = s.heap.objs.size + 1 := Heap.size_push _ _
        have calm3 : A.in1.in1.in1.handled = none := calm
        have ne : l ≠ (s.heap.push (nu led)).objs.size := by rw [z1]; exact Nat.ne_of_lt (Nat.lt_succ_of_lt lt)
        have out : s.heap.objs.size ∉ [(s.heap.push (nu led)).objs.size, l] := by
          rw [z1]
          intro z
          rcases List.mem_cons.mp z with z | z
          · exact absurd z (Nat.ne_of_lt (Nat.lt_succ_self _))
          · exact absurd (List.mem_singleton.mp z) (Nat.ne_of_gt lt)
        refine upd_turns (knd := knd) ((Walks.list calm3 _ l ne its).toS) out val keyed few (its.size - 0) 0 _ rfl (Nat.zero_le _) ⟨⟨_, Heap.get?_push_size _ rfl, rfl, rfl⟩, here.push _⟩ ?_ ?_
        · refine PyProof.Rows.SetOf_congr ((PyProof.Rows.setObjOf_fresh (knd := knd) led).setOf (Heap.get?_push_of_some _ new0) (by unfold scanBound; omega)) (fun k => ?_) rfl
          simp [firsts]
        · rintro ⟨h', g', d', tk', os'⟩ mv hS
          obtain rfl : g' = s.gens := mv.gens
          obtain rfl : d' = s.drawn := mv.drawn
          obtain rfl : os' = s.os := mv.os
          change wpAny _ _ _ _ _ _
          refine wpAny_pure ?_
          change wpAny _ _ (ret Value.none) _ _ _
          refine wpAny_pure ⟨rfl, h', tk', rfl, hPst _ hS, ?_⟩
          intro b o hb e
          refine mv.heap b o ?_ (Heap.get?_push_of_some _ (Heap.get?_push_of_some _ e))
          intro z
          rcases List.mem_cons.mp z with z | z
          · exact absurd z (Nat.ne_of_lt hb)
          · rw [List.mem_singleton, z1] at z
            exact absurd z (Nat.ne_of_lt (Nat.lt_succ_of_lt hb))
      · intro r2 s2 hr2
        cases r2 with
        | error e => exact hr2
        | ok fl2 =>
          cases fl2 with
          | next => exact hr2
          | brk => exact hr2
          | cont => exact hr2
          | ret u =>
            obtain ⟨rfl, h', tk, rfl, hS, old⟩ := hr2
            repeat (any_goals (first | assumption | wp_step))
            exact fin _ _ hS old
end
end VS

set_option Elab.async false
set_option linter.all false
set_option maxRecDepth 100000
set_option maxHeartbeats 4000000
namespace VS
open PySem PySem.Spec PyProof.Rows L2

/-- how many different ones -/
def distinct {α : Type} [DecidableEq α] : List α → Nat
  | [] => 0
  | a :: r => if a ∈ r then distinct r else distinct r + 1
section
variable {κ : Type} [DecidableEq κ]
theorem firsts_mem (val : Nat → κ) : ∀ (n : Nat) (k : κ), k ∈ firsts val n ↔ ∃ i, i < n ∧ val i = k
  | 0, k => by simp [firsts]
  | n + 1, k => by
    unfold firsts
    split
    · rename_i h
      rw [firsts_mem val n k]
      constructor
      · rintro ⟨i, h1, h2⟩; exact ⟨i, by omega, h2⟩
      · rintro ⟨i, h1, h2⟩
        by_cases z : i = n
        · subst z; subst h2; exact (firsts_mem val i _).mp h
        · exact ⟨i, by omega, h2⟩
    · rw [List.mem_append, firsts_mem val n k, List.mem_singleton]
      constructor
      · rintro (⟨i, h1, h2⟩ | h)
        · exact ⟨i, by omega, h2⟩
        · exact ⟨n, by omega, h.symm⟩
      · rintro ⟨i, h1, h2⟩
        by_cases z : i = n
        · subst z; exact .inr h2.symm
        · exact .inl ⟨i, by omega, h2⟩
theorem firsts_nodup (val : Nat → κ) : ∀ n, (firsts val n).Nodup
  | 0 => by simp [firsts]
  | n + 1 => by
    unfold firsts
    split
    · exact firsts_nodup val n
    · rename_i h
      rw [List.nodup_append]
      refine ⟨firsts_nodup val n, by simp, fun a ha b hb e => ?_⟩
      rw [List.mem_singleton] at hb
      subst hb e
      exact h ha
/-- a list's members, each once -/
def dedup : List κ → List κ
  | [] => []
  | a :: r => if a ∈ r then dedup r else a :: dedup r
theorem dedup_mem : ∀ (l : List κ) (k : κ), k ∈ dedup l ↔ k ∈ l
  | [], k => by simp [dedup]
  | a :: r, k => by
    unfold dedup
    split
    · rename_i h
      rw [dedup_mem r k, List.mem_cons]
      exact ⟨.inr, fun z => z.elim (fun z => z ▸ h) id⟩
    · rw [List.mem_cons, List.mem_cons, dedup_mem r k]
theorem dedup_nodup : ∀ l : List κ, (dedup l).Nodup
  | [] => by simp [dedup]
  | a :: r => by
    unfold dedup
    split
    · exact dedup_nodup r
    · rename_i h
      rw [List.nodup_cons, dedup_mem]
      exact ⟨h, dedup_nodup r⟩
theorem dedup_length : ∀ l : List κ, (dedup l).length = distinct l
  | [] => rfl
  | a :: r => by
    unfold dedup distinct
    split
    · exact dedup_length r
    · rw [List.length_cons, dedup_length r]
theorem firsts_length {xs : List κ} {val : Nat → κ} (h : ∀ (i : Nat) x, xs[i]? = some x → val i = x) : (firsts val xs.length).length = distinct xs := by
  rw [← dedup_length]
  refine Nat.le_antisymm ?_ ?_
  · refine (firsts_nodup val _).length_le_of_subset fun k hk => ?_
    obtain ⟨i, h1, h2⟩ := (firsts_mem val _ k).mp hk
    rw [dedup_mem]
    have : xs[i]? = some xs[i] := List.getElem?_eq_getElem h1
    rw [← h2, h i _ this]
    exact List.getElem_mem h1
  · refine (dedup_nodup xs).length_le_of_subset fun k hk => ?_
    rw [dedup_mem] at hk
    obtain ⟨i, h1, h2⟩ := List.mem_iff_getElem.mp hk
    exact (firsts_mem val _ k).mpr ⟨i, h1, by rw [h i _ (List.getElem?_eq_getElem h1)]; exact h2⟩
theorem distinct_nodup {l : List κ} (h : l.Nodup) : distinct l = l.length := by
  induction l with
  | nil => rfl
  | cons a r ih =>
    rw [List.nodup_cons] at h
    unfold distinct
    rw [if_neg h.1, ih h.2, List.length_cons]
end
def gLenSet : G1
  | .lst xs => match strs' xs with
    | some ss => if ss.length ≤ 4000 then some (.int (distinct ss)) else none
    | none => match toIs xs with
      | some is => if is.length ≤ 4000 then some (.int (distinct is)) else none
      | none => none
  | _ => none
theorem strs_reps {G : Gx} {F : Hp} : ∀ {vs : List V} {ds : List D} {is : List Str}, Reps G F vs ds → strs' ds = some is → vs = is.map V.str
  | _, _, _, .nil, h => by unfold strs' at h; cases h; rfl
  | _, _, _, .cons h1 r, h => by
    unfold strs' at h
    split at h
    · rename_i hq; exact absurd hq (by simp)
    · split at h
      · rename_i he _ js hj
        cases h; injection he with e1 e2; subst e1 e2; cases h1; rw [strs_reps r hj]; rfl
      · cases h
    · cases h
theorem vals_at {α : Type} {f : α → V} {is : List α} {us : List Value} (r : Vals (is.map f) us) {i : Nat} {u : Value} (h : us[i]? = some u) : ∃ x, is[i]? = some x ∧ RelV (f x) u := by
  have hl : i < (is.map f).length := by rw [r.length]; exact (List.getElem?_eq_some_iff.mp h).1
  obtain ⟨u', h1, h2⟩ := r.get (List.getElem?_eq_getElem hl)
  rw [h] at h1; cases h1
  rw [List.length_map] at hl
  exact ⟨is[i], List.getElem?_eq_getElem hl, by simpa using h2⟩
section
variable {c : Ctx} {X : Cx}
theorem ve_lenSet {a : Expr} {sa : SE} {p p2 q pos : Pos} (hc : X.calm = true) (hm : X.mg "len" = none) (hm2 : X.mg "set" = none) (ha : PE X a (vt c sa)) (hg : Gl X "len" := by rfl) (hg2 : Gl X "set" := by rfl)
    (n1 : starEach [a] X.env = (false, eval a X.env) :: starEach [] X.env := by rfl) : PE X (.Call (.Name "len" p) [.Call (.Name "set" p2) [a] [] q] [] pos) (vt c (s1 gLenSet sa)) := by
  constructor
  intro pins s σ H Q I h
  obtain ⟨F, ρ, I', d, ρ', e, fin⟩ := h
  obtain ⟨x, e1, e2⟩ := s1_inv e
  refine Call_ (ld_blt I hg hm boot_len (PyProof.Rows.callWith_builtin1 (PyProof.Rows.args_cons (Call_ (ld_blt I hg2 hm2 boot_set ?_)) rfl) rfl rfl))
  refine PyProof.Rows.callWith_type1 (PyProof.Rows.args_cons (thn (ha.run pins s σ H (fun v H1 => ∃ l, v = .ref l ∧ ((∃ ss : List Str, H1 l = some (.lst (ss.map V.str)) ∧ ss.length ≤ 4000 ∧ Q (.int (distinct ss)) H1) ∨ ∃ is : List Int, H1 l = some (.lst (is.map V.int)) ∧ is.length ≤ 4000 ∧ Q (.int (distinct is)) H1)) I ⟨F, ρ, I', x, ρ', e1, fun v H1 F1 x1 I1 r1 => ?_⟩) ?_) n1) n1 rfl
  · unfold gLenSet at e2
    split at e2
    · cases r1 with
      | lst h1 rs =>
        split at e2
        · rename_i ss hs
          split at e2
          · rename_i hl
            cases e2
            exact ⟨_, rfl, .inl ⟨ss, by rw [← strs_reps rs hs]; exact I1.fh _ _ h1, hl, fin _ _ _ x1 I1 (.int _)⟩⟩
          · cases e2
        · split at e2
          · rename_i is hs
            split at e2
            · rename_i hl
              cases e2
              exact ⟨_, rfl, .inr ⟨is, by rw [← ints_reps rs hs]; exact I1.fh _ _ h1, hl, fin _ _ _ x1 I1 (.int _)⟩⟩
            · cases e2
          · cases e2
    · cases e2
  · rintro u s1 ⟨v, H1, I1, ru, l, rfl, q1⟩
    cases ru
    refine PyProof.Rows.args_nil ?_
    have stop : ∀ {κ : Type} [DecidableEq κ] [BEq κ] [LawfulBEq κ] {knd : PySem.KeyKind X.prog X.w κ} {xs : List κ} {val : Nat → κ} {its : List Value}, its.length = xs.length → xs.length ≤ 4000 → (∀ (i : Nat) x, xs[i]? = some x → val i = x) → Q (.int (distinct xs)) H1 →
        ∀ h' tk, h'.SetOf knd s1.heap.objs.size (fun k => decide (k ∈ firsts val its.toArray.size)) (firsts val its.toArray.size).length → (∀ b o, b < s1.heap.objs.size → s1.heap.get? b = some o → h'.get? b = some o) →
        wpAny (model X.prog X.w) X.A (spliced (backTo pos (starEach [] X.env))) (fun vs s₂ => wpAny (model X.prog X.w) X.A (call (.builtin "len") (Value.ref s1.heap.objs.size :: vs)) (EP X pins σ Q) X.xe s₂) X.xe { s1 with heap := h', toks := tk } := by
      intro κ _ _ _ knd xs val its hlen h4 hval hQ h' tk hS hk
      refine PyProof.Rows.args_nil ?_
      have hsz : its.toArray.size = xs.length := by rw [List.size_toArray]; exact hlen
      rw [hsz] at hS
      rw [firsts_length hval] at hS
      obtain ⟨o, es, ep, t, ho, hex, hd, _, _, _, hf, hn⟩ := hS
      have I2 : Inv X pins σ H1 { s1 with heap := h', toks := tk } := I1.kept fun b o e => hk b o (Heap.lt_size e) e
      have small : distinct xs ≤ 4000 := by
        rw [← firsts_length hval]
        exact Nat.le_trans (firsts_le _ _) h4
      exact call_len_set ho hex hd hf (by rw [hn]; omega) ⟨.int (distinct xs), H1, I2.tok _, ⟨_, by rw [hn]⟩, hQ⟩
    rcases q1 with ⟨ss, hh, hl, hQ⟩ | ⟨is, hh, hl, hQ⟩
    · obtain ⟨its, rv, pl, hz⟩ := I1.list (.of hh : SqL X.K H1 l _)
      have hlen : its.length = ss.length := by rw [← rv.length, List.length_map]
      have hval : ∀ (i : Nat) x, ss[i]? = some x → (fun i => ss.getD i Str.empty) i = x := fun i x hx => by simp [List.getD_eq_getElem?_getD, hx]
      refine set_of_list0 (knd := strKind X.prog X.w) (fun i => ss.getD i Str.empty) (I1.ok.hd hc) pl.isList (fun i v hv => ?_) (by rw [List.size_toArray, hlen]; unfold scanBound; omega) (Pst := fun h' => h'.SetOf (strKind X.prog X.w) s1.heap.objs.size _ _) (fun h' z => z) (stop hlen hl hval hQ)
      obtain ⟨x, h1, h2⟩ := vals_at rv (by simpa using hv)
      obtain ⟨t, rfl⟩ := h2
      have hv' : ss.getD i Str.empty = x := hval i x h1
      rw [hv']
      exact ⟨strKind_is _ _ _ _, rfl⟩
    · obtain ⟨its, rv, pl, hz⟩ := I1.list (.of hh : SqL X.K H1 l _)
      have hlen : its.length = is.length := by rw [← rv.length, List.length_map]
      have hval : ∀ (i : Nat) x, is[i]? = some x → (fun i => is.getD i 0) i = x := fun i x hx => by simp [List.getD_eq_getElem?_getD, hx]
      refine set_of_list0 (knd := intKind X.prog X.w) (fun i => is.getD i 0) (I1.ok.hd hc) pl.isList (fun i v hv => ?_) (by rw [List.size_toArray, hlen]; unfold scanBound; omega) (Pst := fun h' => h'.SetOf (intKind X.prog X.w) s1.heap.objs.size _ _) (fun h' z => z) (stop hlen hl hval hQ)
      obtain ⟨x, h1, h2⟩ := vals_at rv (by simpa using hv)
      obtain ⟨t, rfl⟩ := h2
      have hv' : is.getD i 0 = x := hval i x h1
      rw [hv']
      exact ⟨intKind_is _ _ _ _, rfl⟩
end
end VS

set_option Elab.async false
set_option linter.all false
set_option maxRecDepth 100000
set_option maxHeartbeats 4000000
namespace VS
open PySem PySem.Spec PyProof.Rows L2

/-! an own class: made, its fields stored in __init__ -/
/-- what the text says of a class -/
structure ClsOk (K : PySem.W.Frag) (C : Addr) : Prop where
  cl : Cls K C
  ha : PySem.W.findIn K (.ref C) "__class__" = some (some (.builtin "object.__class__"))
  hn : PySem.W.specialIn K (.builtin "object.__class__") "__get__" = some (some (.builtin "getset_descriptor.__get__"))
  tk : PySem.W.takesIn K (.builtin "object.__class__") = some true
  mr : PySem.W.mroIn K C (.type "object") = some true
/-- a class as its callers know it -/
structure CalC (P : Program) (w : World) (G : Gx) (mg : Str → Option Value) (base : Heap) (x : Str) (k n : Nat) (t : Nat) (m : Mir) : Prop where
  ex : ∃ (f : Addr) (fd : FuncData) (ps : List Str), mg x = some (.ref (G.cls t)) ∧ Mk G.K (G.cls t) f ∧ Binds G.K fd ps [] ∧ FnOk P w G.K mg base CX0 k f fd ps (spV G n m)
def sMake (t nf n : Nat) (m : Mir) (a : SA) : SE := fun ρ => match a ρ with
  | some (xs, ρ1) => if xs.length + 1 = n then match m (.slf t [] :: xs.map .val) with
    | some (.non, out) => if out.length = nf then some (.ins t out, ρ1) else none
    | _ => none
    else none
  | none => none
section
variable {c : Ctx} {X : Cx}
/-- an object that is no slot's, changed by a callee -/
theorem Ok.keepX {F H F' H' : Hp} {σ : L2.St} {ρ : Rho} {p : Addr} (I : Ok c F H σ ρ) (k : Keep [p] F H F' H') (h0 : c.H0 p = none) (ap : ∀ (j : Nat) (s : Sl) (q : Addr), ρ[j]? = some s → s.mut = true → σ[j]? = some (some (V.ref q)) → q ≠ p) : Ok c F' H' σ ρ := by
  have nb : ∀ q, q ≠ p → q ∉ [p] := fun q h z => h (List.mem_singleton.mp z)
  refine ⟨I.len, I.f0.trans k.f, k.fh, fun q o h1 h2 => k.h q o (I.fr q o h1 h2) (nb q fun z => by subst z; rw [h0] at h1; cases h1), fun q o h1 => ?_, fun q o h1 h2 => ?_, fun i s hs => ?_, I.ap, I.hb⟩
  · obtain ⟨o', e⟩ := I.al q o h1
    exact k.a q o' e
  · obtain ⟨o', e⟩ := I.al q o h1
    exact k.n q o' e (I.n0 q o h1 h2)
  · obtain ⟨ov, h1, h2⟩ := I.sl i s hs
    refine ⟨ov, h1, ?_⟩
    cases s with
    | no => cases ov <;> trivial
    | val d =>
      cases ov with
      | none => exact h2
      | some v => exact Rep.ext k.f h2
    | own xs =>
      cases ov with
      | none => exact h2
      | some v =>
        obtain ⟨q, e, a1, a2, vs, a3, a4⟩ := h2
        exact ⟨q, e, a1, k.n q _ a3 a2, vs, k.h q _ a3 (nb q (ap i _ q hs rfl (by rw [h1, e]))), a4.ext k.f⟩
    | bor xs =>
      cases ov with
      | none => exact h2
      | some v =>
        obtain ⟨q, e, a1, a2, vs, a3, a4⟩ := h2
        exact ⟨q, e, a1, k.n q _ a3 a2, vs, k.h q _ a3 (nb q (ap i _ q hs rfl (by rw [h1, e]))), a4.ext k.f⟩
    | slf z xs =>
      cases ov with
      | none => exact h2
      | some v =>
        obtain ⟨q, e, a1, a2, dx, fs, a3, a4, a5⟩ := h2
        exact ⟨q, e, a1, k.n q _ a3 a2, dx, fs, k.h q _ a3 (nb q (ap i _ q hs rfl (by rw [h1, e]))), a4, a5.ext k.f⟩
/-- any object that is no slot's becomes data -/
theorem Ok.sealO {F H : Hp} {σ : L2.St} {ρ : Rho} {p : Addr} {u : HO} (I : Ok c F H σ ρ) (hp : H p = some u) (hF : F p = none) (h0 : c.H0 p = none) (ap : ∀ (j : Nat) (s : Sl) (q : Addr), ρ[j]? = some s → s.mut = true → σ[j]? = some (some (V.ref q)) → q ≠ p) : Ok c (upd F p u) H σ ρ := by
  have ex : Ext F (upd F p u) := Ext.upd hF
  refine ⟨I.len, I.f0.trans ex, fun q v e => ?_, I.fr, I.al, fun q v e1 e2 => ?_, fun i s hs => ?_, I.ap, I.hb⟩
  · by_cases z : q = p
    · subst z; rw [upd_same] at e; cases e; exact hp
    · rw [upd_ne z] at e; exact I.fh q v e
  · have z : q ≠ p := fun z => by subst z; rw [h0] at e1; cases e1
    rw [upd_ne z]; exact I.n0 q v e1 e2
  obtain ⟨ov, h1, h2⟩ := I.sl i s hs
  refine ⟨ov, h1, ?_⟩
  cases s with
  | no => cases ov <;> trivial
  | val d =>
    cases ov with
    | none => exact h2
    | some v => exact Rep.ext ex h2
  | own xs =>
    cases ov with
    | none => exact h2
    | some v =>
      obtain ⟨q, e, a1, a2, vs, a3, a4⟩ := h2
      exact ⟨q, e, a1, by rw [upd_ne (ap i _ q hs rfl (by rw [h1, e]))]; exact a2, vs, a3, a4.ext ex⟩
  | bor xs =>
    cases ov with
    | none => exact h2
    | some v =>
      obtain ⟨q, e, a1, a2, vs, a3, a4⟩ := h2
      exact ⟨q, e, a1, by rw [upd_ne (ap i _ q hs rfl (by rw [h1, e]))]; exact a2, vs, a3, a4.ext ex⟩
  | slf k fs =>
    cases ov with
    | none => exact h2
    | some v =>
      obtain ⟨q, e, a1, a2, dx, vs, a3, a4, a5⟩ := h2
      exact ⟨q, e, a1, by rw [upd_ne (ap i _ q hs rfl (by rw [h1, e]))]; exact a2, dx, vs, a3, a4, a5.ext ex⟩
theorem ve_make {x : Str} {p pos : Pos} {e : Expr} {es : List Expr} {k n t nf : Nat} {m : Mir} {sa : SA} (C : CalC X.prog X.w c.G X.mg X.base x k n t m) (hnf : (c.G.fld t).length = nf) (hK : X.K = c.G.K) (hr : Room (k + 1) X.A) (ha : PA X (e :: es) (va c sa)) (hg : Gl X x := by rfl) (hdb : (x == ("__debug__" : Str)) = false := by decide)
    (he : starEach (e :: es) X.env = (false, eval e X.env) :: starEach es X.env := by rfl) (hpl : (backTo pos (starEach es X.env)).any (·.1) = false := by rfl) : PE X (.Call (.Name x p) (e :: es) [] pos) (vt c (sMake t nf n m sa)) := by
  obtain ⟨f, fd, ps, hm, hk, hb, hF⟩ := C.ex
  rw [← hK] at hk hb hF
  refine pe_of (pe_make hk hF hr hg hm hb .nil pass0 ha hdb he hpl) fun σ H Q ⟨F, ρ, I, d, ρ', e, q⟩ => ?_
  unfold sMake at e
  split at e
  · rename_i xs ρ1 e1
    split at e
    · rename_i hn
      split at e
      · rename_i out e2
        split at e
        · rename_i hl
          cases e
          refine ⟨F, ρ, I, xs, ρ', e1, fun us H1 F1 x1 I1 r1 => ?_⟩
          intro a dx ha' hdx hne
          rw [List.append_nil]
          have G1 : Grow F1 H1 F1 (upd H1 dx (.own a)) := Grow.raw I1.fh hdx
          have ha2 : upd H1 dx (.own a) a = none := by rw [upd_ne hne.symm]; exact ha'
          have G2 := G1.trans (Grow.raw (o := .ins (c.G.cls t) dx []) G1.fh ha2)
          have hFa : F1 a = none := ext_none I1.fh ha'
          refine ⟨F1, [a], _, G2.fh, .slf hFa upd_same r1, by simpa using hn, .non, out, e2, fun v H2 F2 k2 o2 r2 => ?_⟩
          cases r2
          refine ⟨rfl, ?_⟩
          obtain ⟨z1, dx', fs, z2, ⟨nn, z3⟩, z4⟩ := o2 a (List.mem_singleton.mpr rfl)
          have I2 := (I1.grow G2).keepX k2 (I1.no_H0 ha') (I1.no_slot ha')
          have I3 := I2.sealO z2 z1 (I1.no_H0 ha') (I1.no_slot ha')
          have ex := Ext.upd (o := .ins (c.G.cls t) dx' fs) z1
          refine q _ H2 _ ((x1.trans k2.f).trans ex) I3 (.ins upd_same ?_ (z4.ext ex))
          have l1 := z4.length
          rw [List.length_map] at l1
          have l2 := congrArg List.length z3
          rw [List.length_map, List.length_take] at l2
          rw [z3, List.take_of_length_le (by omega)]
        · cases e
      · cases e
    · cases e
  · cases e
/-- self.f = e in an __init__, the fields in their order -/
def kSelf (t j : Nat) (e : SE) : SS := fun ρ => match e ρ with
  | some (d, ρ1) => match (ρ1[0]? : Option Sl) with
    | some (.slf t' fs) => if t' = t ∧ fs.length = j then some (.nx, ρ1.set 0 (.slf t (fs ++ [d]))) else none
    | _ => none
  | none => none
theorem putF_new {f : Str} {v : V} : ∀ {fs : List (Str × V)}, f ∉ fs.map (·.1) → putF f v fs = fs ++ [(f, v)]
  | [], _ => rfl
  | (g, x) :: r, h => by
    simp only [List.map_cons, List.mem_cons, not_or] at h
    show (if g = f then _ else _) = _
    rw [if_neg (Ne.symm h.1), putF_new h.2]
    rfl
theorem look_take {f : Str} : ∀ {l : List Str} {j : Nat}, look f l = some j → f ∉ l.take j ∧ l.take (j + 1) = l.take j ++ [f] ∧ j < l.length
  | [], j, h => by simp [look] at h
  | g :: r, j, h => by
    unfold look at h
    by_cases e : f = g
    · rw [if_pos e] at h; cases h; subst e; simp
    · rw [if_neg e] at h
      cases e2 : look f r with
      | none => rw [e2] at h; cases h
      | some i =>
        rw [e2] at h; cases h
        obtain ⟨h1, h2, h3⟩ := look_take e2
        refine ⟨by simp [e, h1], ?_, by simp; omega⟩
        simp only [List.take_succ_cons, List.cons_append]
        rw [h2]
theorem vs_self {e o : Expr} {f : Str} {s : SE} {pos pos' : Pos} (t j : Nat) (ho : PE X o (tVar 0)) (he : PE X e (vt c s)) (cl : Cls X.K (c.G.cls t)) (nf : NoAttr X.K (c.G.cls t) f) (hj : look f (c.G.fld t) = some j) (few : j < 1000 := by decide)
    (hs : swapsWith e (some (.Attribute o f pos')) pos.line X.env = pure false := by rfl) : PS X (.Assign [.Attribute o f pos'] e pos) (vs c (kSelf t j s)) :=
  ps_of (ps_fld ho he hs) fun σ H E ⟨F, ρ, I, fl, ρ', e, q⟩ => by
    unfold kSelf at e
    split at e
    · rename_i d ρ1 e1
      split at e
      · rename_i t' fs e2
        split at e
        · rename_i hh
          cases e
          obtain ⟨rfl, hl⟩ := hh
          refine ⟨F, ρ, I, d, ρ1, e1, fun v H1 F1 x1 I1 r1 => ?_⟩
          obtain ⟨ov, h1, h2⟩ := I1.sl 0 _ e2
          cases ov with
          | none => exact h2.elim
          | some w =>
            obtain ⟨p, ep, hB, hF, dx, us, hp, ⟨n, hn⟩, r⟩ := h2
            subst ep
            have l1 := r.length
            rw [List.length_map] at l1
            have l2 := congrArg List.length hn
            rw [List.length_map, List.length_take] at l2
            obtain ⟨g1, g2, g3⟩ := look_take hj
            have names : us.map (·.1) = (c.G.fld t').take j := by
              by_cases z : n ≤ (c.G.fld t').length
              · rw [hn, show n = j by omega]
              · omega
            refine ⟨_, h1, p, c.G.cls t', dx, us, rfl, hp, cl, nf, by omega, ?_⟩
            rw [putF_new (by rw [names]; exact g1)]
            refine q _ _ F1 x1 ?_
            -- self has one field more
            have keep : Keep [p] F1 H1 F1 (upd H1 p (.ins (c.G.cls t') dx (us ++ [(f, v)]))) := by
              refine ⟨Ext.rfl', fun a o e => ?_, fun a o e n => ?_, fun a o e => ?_, fun a o _ n => n⟩
              · have : a ≠ p := fun z => by subst z; rw [hF] at e; cases e
                rw [upd_ne this]; exact I1.fh a o e
              · have : a ≠ p := fun z => n (by rw [z]; exact List.mem_singleton.mpr rfl)
                rw [upd_ne this]; exact e
              · by_cases z : a = p
                · subst z; exact ⟨_, upd_same⟩
                · exact ⟨o, by rw [upd_ne z]; exact e⟩
            have l0 : 0 < ρ1.length := (List.getElem?_eq_some_iff.mp e2).1
            refine ⟨by rw [List.length_set]; exact I1.len, I1.f0, keep.fh, fun a o z1 z2 => keep.h a o (I1.fr a o z1 z2) fun z => z2 (by rw [List.mem_singleton.mp z]; exact hB), fun a o z1 => ?_, I1.n0, fun i s hs => ?_, fun a b s t pa qb ha hb ms mt hpa hqb e => ?_, I1.hb⟩
            · obtain ⟨o', z⟩ := I1.al a o z1
              exact keep.a a o' z
            · by_cases hi : i = 0
              · subst hi
                rw [List.getElem?_set_self l0] at hs
                cases hs
                refine ⟨_, h1, p, rfl, hB, hF, dx, _, upd_same, ⟨j + 1, ?_⟩, ?_⟩
                · rw [List.map_append, names, g2]; rfl
                · rw [List.map_append]; exact r.append (.one r1)
              · rw [List.getElem?_set_ne (Ne.symm hi)] at hs
                obtain ⟨ov, k1, k2⟩ := I1.sl i s hs
                refine ⟨ov, k1, ?_⟩
                have ne : ∀ q, s.mut = true → ov = some (V.ref q) → q ≠ p := fun q hm e z => hi (I1.ap i 0 _ _ q p hs e2 hm rfl (by rw [k1, e]) h1 z)
                cases s with
                | no => cases ov <;> trivial
                | val d => cases ov <;> exact k2
                | own xs =>
                  cases ov with
                  | none => exact k2
                  | some v =>
                    obtain ⟨q, e, a1, a2, vs, a3, a4⟩ := k2
                    exact ⟨q, e, a1, a2, vs, by rw [upd_ne (ne q rfl (by rw [e]))]; exact a3, a4⟩
                | bor xs =>
                  cases ov with
                  | none => exact k2
                  | some v =>
                    obtain ⟨q, e, a1, a2, vs, a3, a4⟩ := k2
                    exact ⟨q, e, a1, a2, vs, by rw [upd_ne (ne q rfl (by rw [e]))]; exact a3, a4⟩
                | slf z xs =>
                  cases ov with
                  | none => exact k2
                  | some v =>
                    obtain ⟨q, e, a1, a2, dx, fs, a3, a4, a5⟩ := k2
                    exact ⟨q, e, a1, a2, dx, fs, by rw [upd_ne (ne q rfl (by rw [e]))]; exact a3, a4, a5⟩
            · have mu : ∀ (i : Nat) (s : Sl), (ρ1.set 0 (.slf t' (fs ++ [d])))[i]? = some s → s.mut = true → ∃ s', ρ1[i]? = some s' ∧ s'.mut = true := fun i s hs hm => by
                by_cases hi : i = 0
                · subst hi; exact ⟨_, e2, rfl⟩
                · rw [List.getElem?_set_ne (Ne.symm hi)] at hs; exact ⟨s, hs, hm⟩
              obtain ⟨s', z1, z2⟩ := mu a s ha ms
              obtain ⟨t2, z3, z4⟩ := mu b t hb mt
              exact I1.ap a b s' t2 pa qb z1 z3 z2 z4 hpa hqb e
        · cases e
      · cases e
    · cases e

/-! isinstance -/
def gIsTy (T : Nat) : G1
  | .non => some (.bl false)
  | .bl _ => some (.bl (T == 0 || T == 1))
  | .int _ => some (.bl (T == 1))
  | .str _ => some (.bl (T == 2))
  | .lst _ => some (.bl (T == 3))
  | .tup _ => some (.bl (T == 4))
  | _ => none
def tyName : Nat → String
  | 0 => "bool" | 1 => "int" | 2 => "str" | 3 => "list" | _ => "tuple"
/-- isinstance(x, T), T one of bool, int, str, list, tuple -/
theorem isTy_rule (T : Nat) (hT : T < 5) {F H : Hp} {x : V} {d r : D} (e : Ext F H) (h : Rep c.G F x d) (hg : gIsTy T d = some r) : ∃ t b, TyX X.K H x t ∧ PySem.W.kitOne X.K t (.type (tyName T)) = some b ∧ r = .bl b := by
  have k : ∀ (a : String) (b : Bool), kitB a (tyName T) = some b → PySem.W.kitOne X.K (.type a) (.type (tyName T)) = some b := fun a b z => kit_ty z
  unfold gIsTy at hg
  split at hg
  · cases hg; cases h
    exact ⟨_, false, .base .non, k _ _ (by match T, hT with | 0, _ => decide +kernel | 1, _ => decide +kernel | 2, _ => decide +kernel | 3, _ => decide +kernel | 4, _ => decide +kernel), rfl⟩
  · cases hg; cases h
    exact ⟨_, _, .base (.bl _), k _ _ (by match T, hT with | 0, _ => decide +kernel | 1, _ => decide +kernel | 2, _ => decide +kernel | 3, _ => decide +kernel | 4, _ => decide +kernel), rfl⟩
  · cases hg; cases h
    exact ⟨_, _, .base (.int _), k _ _ (by match T, hT with | 0, _ => decide +kernel | 1, _ => decide +kernel | 2, _ => decide +kernel | 3, _ => decide +kernel | 4, _ => decide +kernel), rfl⟩
  · cases hg; cases h
    exact ⟨_, _, .base (.str _), k _ _ (by match T, hT with | 0, _ => decide +kernel | 1, _ => decide +kernel | 2, _ => decide +kernel | 3, _ => decide +kernel | 4, _ => decide +kernel), rfl⟩
  · cases hg
    cases h with
    | lst h1 _ => exact ⟨_, _, .base (.lst (e _ _ h1)), k _ _ (by match T, hT with | 0, _ => decide +kernel | 1, _ => decide +kernel | 2, _ => decide +kernel | 3, _ => decide +kernel | 4, _ => decide +kernel), rfl⟩
  · cases hg
    cases h with
    | tup h1 _ => exact ⟨_, _, .base (.tup (e _ _ h1)), k _ _ (by match T, hT with | 0, _ => decide +kernel | 1, _ => decide +kernel | 2, _ => decide +kernel | 3, _ => decide +kernel | 4, _ => decide +kernel), rfl⟩
  · cases hg
theorem ve_isTy {e : Expr} {x : Str} {s : SE} {p p2 pos : Pos} (T : Nat) (hT : T < 5) (hm : X.mg "isinstance" = none) (he : PE X e (vt c s)) (hm2 : X.mg x = none) (hv2 : bootBuiltins x = some (.type (tyName T))) (hg : Gl X "isinstance" := by rfl) (hg2 : Gl X x := by rfl)
    (n2 : x ≠ "__name__" := by decide) (d2 : (x == ("__debug__" : Str)) = false := by decide)
    (h1 : starEach [e, .Name x p2] X.env = (false, eval e X.env) :: starEach [.Name x p2] X.env := by rfl) (h2 : starEach [.Name x p2] X.env = (false, eval (.Name x p2) X.env) :: starEach [] X.env := by rfl)
    (hpl : (backTo pos (starEach [.Name x p2] X.env)).any (·.1) = false := by rfl) :
    PE X (.Call (.Name "isinstance" p) [e, .Name x p2] [] pos) (vt c (s1 (gIsTy T) s)) := by
  refine pe_of (pe_callB call_isi hg hm (by decide +kernel) (pa_cons he (pa_cons (pe_bltn (v := .ty (tyName T)) hg2 hm2 hv2 rfl n2 d2) pa_nil h2) h1) (by decide) (by decide) h1 hpl) fun σ H Q ⟨F, ρ, I, d, ρ', e, q⟩ => ?_
  obtain ⟨y, e1, e2⟩ := s1_inv e
  refine ⟨F, ρ, I, y, ρ', e1, fun v H1 F1 x1 I1 r1 => ?_⟩
  obtain ⟨t, b, g1, g2, g3⟩ := isTy_rule (X := X) T hT I1.fh r1 e2
  subst g3
  exact ⟨v, .ty (tyName T), t, _, b, rfl, .ty _, g1, g2, q _ _ _ x1 I1 (.bl _)⟩
/-- isinstance(x, C), x of the class itself -/
def gIsC (k : Nat) : G1
  | .ins k' _ => if k' = k then some (.bl true) else none
  | _ => none
theorem ve_isC {e : Expr} {x : Str} {s : SE} {p p2 pos : Pos} (k : Nat) (hm : X.mg "isinstance" = none) (he : PE X e (vt c s)) (hm2 : X.mg x = some (.ref (c.G.cls k))) (C : ClsOk X.K (c.G.cls k)) (hg : Gl X "isinstance" := by rfl) (hg2 : Gl X x := by rfl)
    (d2 : (x == ("__debug__" : Str)) = false := by decide)
    (h1 : starEach [e, .Name x p2] X.env = (false, eval e X.env) :: starEach [.Name x p2] X.env := by rfl) (h2 : starEach [.Name x p2] X.env = (false, eval (.Name x p2) X.env) :: starEach [] X.env := by rfl)
    (hpl : (backTo pos (starEach [.Name x p2] X.env)).any (·.1) = false := by rfl) :
    PE X (.Call (.Name "isinstance" p) [e, .Name x p2] [] pos) (vt c (s1 (gIsC k) s)) := by
  refine pe_of (pe_callB call_isi hg hm (by decide +kernel) (pa_cons he (pa_cons (pe_glob (v := .ref (c.G.cls k)) hg2 hm2 rfl d2) pa_nil h2) h1) (by decide) (by decide) h1 hpl) fun σ H Q ⟨F, ρ, I, d, ρ', e, q⟩ => ?_
  obtain ⟨y, e1, e2⟩ := s1_inv e
  refine ⟨F, ρ, I, y, ρ', e1, fun v H1 F1 x1 I1 r1 => ?_⟩
  unfold gIsC at e2
  split at e2
  · split at e2
    · rename_i hk
      subst hk
      cases e2
      cases r1 with
      | ins g1 _ _ =>
        exact ⟨_, _, _, _, true, rfl, .own _, .base (.ins (I1.fh _ _ g1) C.cl C.ha C.hn C.tk C.mr), if_pos (beq_self_eq_true _), q _ _ _ x1 I1 (.bl _)⟩
    · cases e2
  · cases e2
end

/-! the law's own promise -/
def spLaw (K : PySem.W.Frag) : Sp := fun vs H Q _ => ∃ (a : Addr) (ns : List Int), vs = [.ref a] ∧ SqL K H a (ns.map V.int) ∧ ns.length ≤ 63 ∧ ∀ H', Q (.bl true) H'
theorem law_ok {P : Program} {w : World} {G : Gx} {mg : Str → Option Value} {base : Heap} {k : Nat} {f : Addr} {fd : FuncData} {x : Str} {m : Mir} (F : FnOk P w G.K mg base CX0 k f fd [x] (spV G 1 m))
    (h : ∀ ns : List Int, ns.length ≤ 63 → ∃ o, m [.val (.scr (ns.map .int))] = some (.bl true, o)) : FnOk P w G.K mg base CX0 k f fd [x] (spLaw G.K) := by
  refine F.imp fun vs H Q E ⟨a, ns, e, hs, hl, q⟩ => ?_
  subst e
  obtain ⟨o, ho⟩ := h ns hl
  exact ⟨H, [], _, Ext.rfl', .vals (ds := [.scr (ns.map .int)]) (.one (.scr hs (reps_ints ns))), rfl, _, o, ho, fun v H' F' _ _ r => by cases r; exact q H'⟩
end VS

set_option Elab.async false
set_option linter.all false
set_option maxRecDepth 100000
set_option maxHeartbeats 4000000
namespace VS
open PySem PySem.Spec PyProof.Rows L2

/-! enumerate(zip(x, y)) over two lists -/
/-- a zip at z, whatever it says of the tuple it gave out -/
abbrev ZS (h : Heap) (z TI TO : Addr) (o : Value) (f : Bool) : Prop :=
  h.get? z = some { cls := .type "zip", dict := none, data := .fields #[o, .bool f, .bool false, .ref TI, .ref TO], slots := #[] }
def OutV (o : Value) : Prop := o = .none ∨ ∃ T : Addr, o = rawInt T
section
variable {prog : Program} {w : World} {A : Around} {E : Value → Shared → Prop} {s : Shared}
theorem alive_w {T : Addr} {Q : Option Obj → Shared → Prop} (h : Q (s.heap.get? T) s) : wpAny (model prog w) A (loadIfAlive T) Q E s := fun _ _ _ => h
theorem zs_free {z TI TO : Addr} {o : Value} {f : Bool} {Q : Bool → Shared → Prop} (hz : ZS s.heap z TI TO o f) (ho : OutV o)
    (q : ∀ b h' g, ZS h' z TI TO o g → Heap.SameBut z s.heap h' → Q b { s with heap := h' }) : wpAny (model prog w) A (Builtin.SmallTypes.ownedTupleIsFree (.ref z)) Q E s := by
  unfold Builtin.SmallTypes.ownedTupleIsFree
  rcases ho with rfl | ⟨T, rfl⟩
  · exact wpAny_bind (wpAny_field hz rfl (x := Value.none) rfl (wpAny_pure (q true s.heap f hz (.refl _ _))))
  · refine wpAny_bind (wpAny_field (x := rawInt T) hz rfl rfl ?_)
    show wpAny _ _ (loadIfAlive ((T : Int).toNat) >>= _) Q E s
    rw [Int.toNat_natCast]
    refine wpAny_bind (alive_w ?_)
    cases e : s.heap.get? T with
    | none => exact wpAny_pure (q true s.heap f hz (.refl _ _))
    | some ob =>
      simp only [Option.isNone_some, Bool.false_eq_true, if_false]
      refine wpAny_bind (wpAny_field (x := .bool f) hz rfl rfl ?_)
      cases f with
      | true => exact wpAny_pure (q false s.heap true hz (.refl _ _))
      | false => exact wpAny_bind (wpAny_setField_rec hz (by simp) fun h1 z1 b1 => wpAny_pure (q false h1 true z1 b1))
theorem zs_item {z TI TO i1 i2 l1 l2 : Addr} {k : Nat} {xs ys : Array Value} {x y a b o : Value} {f : Bool} {Q : Value → Shared → Prop} (D : ZipApart z TI TO i1 i2 l1 l2)
    (hz : ZS s.heap z TI TO o f) (ho : OutV o) (hTI : IsPair s.heap TI (.ref i1) (.ref i2)) (hTO : IsPair s.heap TO a b)
    (p1 : s.heap.IsListIter i1 l1 k) (p2 : s.heap.IsListIter i2 l2 k) (q1 : s.heap.IsList l1 xs) (q2 : s.heap.IsList l2 ys) (hx : xs[k]? = some x) (hy : ys[k]? = some y)
    (fin : ∀ h' o' f' a' b', OutV o' → ZS h' z TI TO o' f' → IsPair h' TO a' b' → h'.IsListIter i1 l1 (k + 1) → h'.IsListIter i2 l2 (k + 1) → IsPair h' s.heap.objs.size x y → h'.objs.size = s.heap.objs.size + 1 →
      (∀ c u, c ≠ z → c ≠ TO → c ≠ i1 → c ≠ i2 → s.heap.get? c = some u → h'.get? c = some u) → Q (.ref s.heap.objs.size) { s with heap := h' }) :
    wpAny (model prog w) A (Builtin.«zip.__next__» ⟨[.ref z], []⟩) (fun r s' => ∃ v, r = .done (.ret v) ∧ Q v s') E s := by
  show wpAny _ _ (field (.ref z) 2 >>= _) _ E s
  refine wpAny_bind (wpAny_field (x := .bool false) hz rfl rfl ?_)
  show wpAny _ _ (field (.ref z) 3 >>= _) _ E s
  refine wpAny_bind (wpAny_field (x := .ref TI) hz rfl rfl ?_)
  refine wpAny_bind (wpAny_seqItems (E := E) hTI rfl ?_)
  show wpAny _ _ (Builtin.SmallTypes.ownedTupleIsFree (.ref z) >>= _) _ E s
  refine wpAny_bind (zs_free hz ho fun bb h0 f0 z0 b0 => ?_)
  have kTO0 : IsPair h0 TO a b := b0.extBut _ _ D.TOz hTO
  have r1 : h0.IsListIter i1 l1 k := p1.extBut b0.extBut D.i1z
  have r2 : h0.IsListIter i2 l2 k := p2.extBut b0.extBut D.i2z
  have s1 : h0.IsList l1 xs := q1.extBut b0.extBut D.l1z
  have s2 : h0.IsList l2 ys := q2.extBut b0.extBut D.l2z
  have sz0 : h0.objs.size = s.heap.objs.size := b0.1
  cases bb with
  | true =>
    simp only [if_true]
    refine wpAny_bind (wpAny_rule ?_)
    refine wpAny_bind (wpAny_field (x := .ref TO) z0 rfl rfl ?_)
    refine wpAny_bind (wpAny_setField_rec z0 (by simp) fun h1 z1 b1 => ?_)
    replace z1 : ZS h1 z TI TO .ellipsis f0 := z1
    replace b1 : Heap.SameBut z h0 h1 := b1
    refine wpAny_bind ?_
    simp only [List.zipIdx_cons, List.zipIdx_nil, List.forIn_cons, List.forIn_nil]
    refine wpAny_bind (wpAny_bind (wpAny_onRaise ?_))
    show wpAny _ _ (Builtin.SmallTypes.nextOf (.ref i1) >>= _) _ _ { s with heap := h1 }
    refine wpAny_bind (wpAny_nextOf_list_item (s := { s with heap := h1 }) (r1.extBut b1.extBut D.i1z) (s1.extBut b1.extBut D.l1z) hx fun h2 t2 b2 => wpAny_pure ?_)
    replace b2 : Heap.SameBut i1 h1 h2 := b2
    have kTO2 : IsPair h2 TO a b := b2.extBut _ _ D.TOi1 (b1.extBut _ _ D.TOz kTO0)
    refine wpAny_bind (wpAny_seqItems (s := { s with heap := h2 }) kTO2 rfl ?_)
    refine wpAny_bind (wpAny_updateSeq_pair (s := { s with heap := h2 }) kTO2 fun h3 k3 b3 => ?_)
    replace k3 : IsPair h3 TO x b := k3
    replace b3 : Heap.SameBut TO h2 h3 := b3
    refine wpAny_bind (wpAny_letGo (wpAny_pure (?_)))
    refine wpAny_bind (wpAny_bind (wpAny_onRaise (?_)))
    show wpAny _ _ (Builtin.SmallTypes.nextOf (.ref i2) >>= _) _ _ { s with heap := h3 }
    refine wpAny_bind (wpAny_nextOf_list_item (s := { s with heap := h3 }) (((r2.extBut b1.extBut D.i2z).extBut b2.extBut D.i12.symm).extBut b3.extBut D.TOi2.symm) (((s2.extBut b1.extBut D.l2z).extBut b2.extBut D.l2i1).extBut b3.extBut D.l2TO) hy fun h4 t4 b4 => wpAny_pure ?_)
    replace b4 : Heap.SameBut i2 h3 h4 := b4
    have k4 : IsPair h4 TO x b := b4.extBut _ _ D.TOi2 k3
    refine wpAny_bind (wpAny_seqItems (s := { s with heap := h4 }) k4 rfl ?_)
    refine wpAny_bind (wpAny_updateSeq_pair (s := { s with heap := h4 }) k4 fun h5 k5 b5 => ?_)
    replace k5 : IsPair h5 TO x y := k5
    replace b5 : Heap.SameBut TO h4 h5 := b5
    refine wpAny_bind (wpAny_letGo (wpAny_pure (wpAny_pure (?_))))
    refine wpAny_bind (wpAny_seqItems (s := { s with heap := h5 }) k5 rfl ?_)
    refine wpAny_bind (wpAny_newTuple (?_))
    have sz5 : h5.objs.size = s.heap.objs.size := by rw [b5.1, b4.1, b3.1, b2.1, b1.1, sz0]
    have z5 : ZS h5 z TI TO .ellipsis f0 := b5.extBut _ _ D.TOz.symm (b4.extBut _ _ D.i2z.symm (b3.extBut _ _ D.TOz.symm (b2.extBut _ _ D.i1z.symm z1)))
    have kk : ∀ c u, c ≠ z → c ≠ TO → c ≠ i1 → c ≠ i2 → s.heap.get? c = some u → h5.get? c = some u := fun c u c1 c2 c3 c4 e =>
      b5.extBut _ _ c2 (b4.extBut _ _ c4 (b3.extBut _ _ c2 (b2.extBut _ _ c3 (b1.extBut _ _ c1 (b0.extBut _ _ c1 e)))))
    have t5 : h5.IsListIter i1 l1 (k + 1) := ((t2.extBut b3.extBut D.TOi1.symm).extBut b4.extBut D.i12).extBut b5.extBut D.TOi1.symm
    have u5 : h5.IsListIter i2 l2 (k + 1) := t4.extBut b5.extBut D.TOi2.symm
    have zl : z < h5.objs.size := Heap.lt_size z5
    show wpAny _ _ (Builtin.SmallTypes.ownedTupleHandOut (.ref z) (.ref h5.objs.size) >>= _) _ _ { s with heap := h5.push { cls := .type "tuple", data := .seq #[x, y] } }
    refine wpAny_bind ?_
    unfold Builtin.SmallTypes.ownedTupleHandOut
    have z6 : ZS (h5.push { cls := .type "tuple", data := .seq #[x, y] }) z TI TO .ellipsis f0 := Heap.get?_push_of_some _ z5
    refine wpAny_bind (wpAny_setField_rec (s := { s with heap := h5.push { cls := .type "tuple", data := .seq #[x, y] } }) z6 (by simp) fun h7 z7 b7 => ?_)
    replace z7 : ZS h7 z TI TO (rawInt h5.objs.size) f0 := z7
    replace b7 : Heap.SameBut z (h5.push { cls := .type "tuple", data := .seq #[x, y] }) h7 := b7
    refine wpAny_setField_rec (s := { s with heap := h7 }) z7 (by simp) fun h8 z8 b8 => ?_
    replace z8 : ZS h8 z TI TO (rawInt h5.objs.size) false := z8
    replace b8 : Heap.SameBut z h7 h8 := b8
    have up : ∀ c u, c ≠ z → h5.get? c = some u → h8.get? c = some u := fun c u c1 e => b8.extBut _ _ c1 (b7.extBut _ _ c1 (Heap.get?_push_of_some _ e))
    have n8 : IsPair h8 h5.objs.size x y := b8.extBut _ _ (Nat.ne_of_gt zl) (b7.extBut _ _ (Nat.ne_of_gt zl) (Heap.get?_push_size _ rfl))
    have sz8 : h8.objs.size = h5.objs.size + 1 := by rw [b8.1, b7.1, Heap.size_push]
    rw [sz5] at n8 sz8
    refine wpAny_pure ⟨_, rfl, (?_)⟩
    show Q (.ref h5.objs.size) { s with heap := h8 }
    rw [sz5]
    exact fin h8 _ _ _ _ (.inr ⟨_, rfl⟩) z8 (up _ _ D.TOz k5) (t5.at fun u e => up _ u D.i1z e) (u5.at fun u e => up _ u D.i2z e) n8 sz8 fun c u c1 c2 c3 c4 e => up c u c1 (kk c u c1 c2 c3 c4 e)
  | false =>
    simp only [Bool.false_eq_true, if_false]
    refine wpAny_bind ?_
    rw [← Array.forIn_toList]
    simp only [List.forIn_cons, List.forIn_nil]
    refine wpAny_bind (wpAny_bind (wpAny_holding (?_)))
    show wpAny _ _ (Builtin.SmallTypes.nextOf (.ref i1) >>= _) _ _ { s with heap := h0 }
    refine wpAny_bind (wpAny_nextOf_list_item (s := { s with heap := h0 }) r1 s1 hx fun h2 t2 b2 => wpAny_pure ?_)
    replace b2 : Heap.SameBut i1 h0 h2 := b2
    refine wpAny_pure (?_)
    refine wpAny_bind (wpAny_bind (wpAny_holding (?_)))
    show wpAny _ _ (Builtin.SmallTypes.nextOf (.ref i2) >>= _) _ _ { s with heap := h2 }
    refine wpAny_bind (wpAny_nextOf_list_item (s := { s with heap := h2 }) (r2.extBut b2.extBut D.i12.symm) (s2.extBut b2.extBut D.l2i1) hy fun h3 t3 b3 => wpAny_pure ?_)
    replace b3 : Heap.SameBut i2 h2 h3 := b3
    refine wpAny_pure (wpAny_pure (?_))
    show wpAny _ _ (newTuple [x, y] >>= _) _ _ { s with heap := h3 }
    refine wpAny_bind (wpAny_newTuple (?_))
    have sz3 : h3.objs.size = s.heap.objs.size := by rw [b3.1, b2.1, sz0]
    have z3 : ZS h3 z TI TO o f0 := b3.extBut _ _ D.i2z.symm (b2.extBut _ _ D.i1z.symm z0)
    have kk : ∀ c u, c ≠ z → c ≠ i1 → c ≠ i2 → s.heap.get? c = some u → h3.get? c = some u := fun c u c1 c2 c3 e => b3.extBut _ _ c3 (b2.extBut _ _ c2 (b0.extBut _ _ c1 e))
    have t4 : h3.IsListIter i1 l1 (k + 1) := t2.extBut b3.extBut D.i12
    refine wpAny_pure ⟨_, rfl, (?_)⟩
    show Q (.ref h3.objs.size) _
    have n4 : IsPair (h3.push { cls := .type "tuple", data := .seq #[x, y] }) h3.objs.size x y := Heap.get?_push_size _ rfl
    have sz4 : (h3.push { cls := .type "tuple", data := .seq #[x, y] }).objs.size = h3.objs.size + 1 := Heap.size_push ..
    rw [sz3] at n4 sz4 ⊢
    exact fin _ _ _ _ _ ho (Heap.get?_push_of_some _ z3) (Heap.get?_push_of_some _ (b3.extBut _ _ D.TOi2 (b2.extBut _ _ D.TOi1 kTO0))) (t4.at fun u e => Heap.get?_push_of_some _ e) (t3.at fun u e => Heap.get?_push_of_some _ e) n4 sz4 fun c u c1 _ c3 c4 e => Heap.get?_push_of_some _ (kk c u c1 c3 c4 e)
theorem zs_end {z TI TO i1 i2 l1 l2 : Addr} {k : Nat} {xs ys : Array Value} {a b o : Value} {f : Bool} {Q : Fin → Shared → Prop} (hh : A.handled = none) (D : ZipApart z TI TO i1 i2 l1 l2)
    (hz : ZS s.heap z TI TO o f) (ho : OutV o) (hTI : IsPair s.heap TI (.ref i1) (.ref i2)) (hTO : IsPair s.heap TO a b)
    (p1 : s.heap.IsListIter i1 l1 k) (p2 : s.heap.IsListIter i2 l2 k) (q1 : s.heap.IsList l1 xs) (q2 : s.heap.IsList l2 ys) (hend : xs[k]? = none ∨ ys[k]? = none)
    (fin : ∀ h' e, (∀ c u, c ≠ z → c ≠ TO → c ≠ i1 → c ≠ i2 → s.heap.get? c = some u → h'.get? c = some u) → (∃ u, h'.get? e = some u ∧ u.cls = .type "StopIteration") → E (.ref e) { s with heap := h' }) :
    wpAny (model prog w) A (Builtin.«zip.__next__» ⟨[.ref z], []⟩) Q E s := by
  show wpAny _ _ (field (.ref z) 2 >>= _) _ E s
  refine wpAny_bind (wpAny_field (x := .bool false) hz rfl rfl ?_)
  show wpAny _ _ (field (.ref z) 3 >>= _) _ E s
  refine wpAny_bind (wpAny_field (x := .ref TI) hz rfl rfl ?_)
  refine wpAny_bind (wpAny_seqItems (E := E) hTI rfl ?_)
  show wpAny _ _ (Builtin.SmallTypes.ownedTupleIsFree (.ref z) >>= _) _ E s
  refine wpAny_bind (zs_free hz ho fun bb h0 f0 z0 b0 => ?_)
  have kTO0 : IsPair h0 TO a b := b0.extBut _ _ D.TOz hTO
  have r1 : h0.IsListIter i1 l1 k := p1.extBut b0.extBut D.i1z
  have r2 : h0.IsListIter i2 l2 k := p2.extBut b0.extBut D.i2z
  have s1 : h0.IsList l1 xs := q1.extBut b0.extBut D.l1z
  have s2 : h0.IsList l2 ys := q2.extBut b0.extBut D.l2z
  cases bb with
  | true =>
    simp only [if_true]
    refine wpAny_bind (wpAny_rule ?_)
    refine wpAny_bind (wpAny_field (x := .ref TO) z0 rfl rfl ?_)
    refine wpAny_bind (wpAny_setField_rec z0 (by simp) fun h1 z1 b1 => ?_)
    replace z1 : ZS h1 z TI TO .ellipsis f0 := z1
    replace b1 : Heap.SameBut z h0 h1 := b1
    refine wpAny_bind ?_
    simp only [List.zipIdx_cons, List.zipIdx_nil, List.forIn_cons, List.forIn_nil]
    refine wpAny_bind (wpAny_bind (wpAny_onRaise (?_)))
    show wpAny _ _ (Builtin.SmallTypes.nextOf (.ref i1) >>= _) _ _ { s with heap := h1 }
    cases hx : xs[k]? with
    | none =>
      refine wpAny_bind (wpAny_nextOf_list_end (s := { s with heap := h1 }) hh (r1.extBut b1.extBut D.i1z) (s1.extBut b1.extBut D.l1z) hx fun h2 e b2 he => ?_)
      obtain ⟨oe, hoe, hce⟩ := he
      replace b2 : Heap.ExtBut i1 h1 h2 := b2
      have z2 : ZS h2 z TI TO .ellipsis f0 := b2 _ _ D.i1z.symm z1
      have ez : e ≠ z := fun x => by subst x; rw [z2] at hoe; cases hoe; simp at hce
      refine wpAny_setField_rec (s := { s with heap := h2 }) z2 (by simp) fun h3 _ b3 => fin h3 e (fun c u c1 _ c3 _ x => b3.extBut _ _ c1 (b2 _ _ c3 (b1.extBut _ _ c1 (b0.extBut _ _ c1 x)))) ⟨oe, b3.extBut _ _ ez hoe, hce⟩
    | some x =>
      have hy : ys[k]? = none := by
        rcases hend with h | h
        · rw [hx] at h; cases h
        · exact h
      refine wpAny_bind (wpAny_nextOf_list_item (s := { s with heap := h1 }) (r1.extBut b1.extBut D.i1z) (s1.extBut b1.extBut D.l1z) hx fun h2 t2 b2 => wpAny_pure ?_)
      replace b2 : Heap.SameBut i1 h1 h2 := b2
      have kTO2 : IsPair h2 TO a b := b2.extBut _ _ D.TOi1 (b1.extBut _ _ D.TOz kTO0)
      refine wpAny_bind (wpAny_seqItems (s := { s with heap := h2 }) kTO2 rfl ?_)
      refine wpAny_bind (wpAny_updateSeq_pair (s := { s with heap := h2 }) kTO2 fun h3 k3 b3 => ?_)
      replace b3 : Heap.SameBut TO h2 h3 := b3
      refine wpAny_bind (wpAny_letGo (wpAny_pure (?_)))
      refine wpAny_bind (wpAny_bind (wpAny_onRaise (?_)))
      show wpAny _ _ (Builtin.SmallTypes.nextOf (.ref i2) >>= _) _ _ { s with heap := h3 }
      refine wpAny_bind (wpAny_nextOf_list_end (s := { s with heap := h3 }) hh (((r2.extBut b1.extBut D.i2z).extBut b2.extBut D.i12.symm).extBut b3.extBut D.TOi2.symm) (((s2.extBut b1.extBut D.l2z).extBut b2.extBut D.l2i1).extBut b3.extBut D.l2TO) hy fun h4 e b4 he => ?_)
      obtain ⟨oe, hoe, hce⟩ := he
      replace b4 : Heap.ExtBut i2 h3 h4 := b4
      have z4 : ZS h4 z TI TO .ellipsis f0 := b4 _ _ D.i2z.symm (b3.extBut _ _ D.TOz.symm (b2.extBut _ _ D.i1z.symm z1))
      have ez : e ≠ z := fun x => by subst x; rw [z4] at hoe; cases hoe; simp at hce
      refine wpAny_setField_rec (s := { s with heap := h4 }) z4 (by simp) fun h5 _ b5 => fin h5 e (fun c u c1 c2 c3 c4 x => b5.extBut _ _ c1 (b4 _ _ c4 (b3.extBut _ _ c2 (b2.extBut _ _ c3 (b1.extBut _ _ c1 (b0.extBut _ _ c1 x)))))) ⟨oe, b5.extBut _ _ ez hoe, hce⟩
  | false =>
    simp only [Bool.false_eq_true, if_false]
    refine wpAny_bind ?_
    rw [← Array.forIn_toList]
    simp only [List.forIn_cons, List.forIn_nil]
    refine wpAny_bind (wpAny_bind (wpAny_holding (?_)))
    show wpAny _ _ (Builtin.SmallTypes.nextOf (.ref i1) >>= _) _ _ { s with heap := h0 }
    cases hx : xs[k]? with
    | none =>
      refine wpAny_bind (wpAny_nextOf_list_end (s := { s with heap := h0 }) hh r1 s1 hx fun h2 e b2 he => ?_)
      exact fin h2 e (fun c u c1 _ c3 _ x => b2 _ _ c3 (b0.extBut _ _ c1 x)) he
    | some x =>
      have hy : ys[k]? = none := by
        rcases hend with h | h
        · rw [hx] at h; cases h
        · exact h
      refine wpAny_bind (wpAny_nextOf_list_item (s := { s with heap := h0 }) r1 s1 hx fun h2 t2 b2 => wpAny_pure ?_)
      replace b2 : Heap.SameBut i1 h0 h2 := b2
      refine wpAny_pure (?_)
      refine wpAny_bind (wpAny_bind (wpAny_holding (?_)))
      show wpAny _ _ (Builtin.SmallTypes.nextOf (.ref i2) >>= _) _ _ { s with heap := h2 }
      refine wpAny_bind (wpAny_nextOf_list_end (s := { s with heap := h2 }) hh (r2.extBut b2.extBut D.i12.symm) (s2.extBut b2.extBut D.l2i1) hy fun h3 e b3 he => ?_)
      exact fin h3 e (fun c u c1 _ c3 c4 x => b3 _ _ c4 (b2.extBut _ _ c3 (b0.extBut _ _ c1 x))) he
end
end VS

set_option Elab.async false
set_option linter.all false
set_option maxRecDepth 100000
set_option maxHeartbeats 4000000
namespace VS
open PySem PySem.Spec PyProof.Rows L2
section
variable {prog : Program} {w : World} {A : Around} {E : Value → Shared → Prop} {s : Shared}
/-- enumerate's next over whatever the inner one does -/
theorem enumAny_item {e it : Addr} {c : Int} {old : Value} {Gx : Value → Heap → Prop} {Q : Value → Shared → Prop} (he : IsEnum s.heap e it c old)
    (hn : ∀ Q' : Value → Shared → Prop, (∀ x h1, Gx x h1 → IsEnum h1 e it c old → Q' x { s with heap := h1 }) → wpAny (model prog w) A (Builtin.SmallTypes.nextOf (.ref it)) Q' E s)
    (fin : ∀ x h1 h', Gx x h1 → IsEnum h1 e it c old → IsEnumOut h' e it (c + 1) x h1.objs.size → h'.get? h1.objs.size = some { cls := .type "tuple", data := .seq #[.int c s.toks, x] } → h'.objs.size = h1.objs.size + 1 →
      (∀ b o, b ≠ e → h1.get? b = some o → h'.get? b = some o) → Q (.ref h1.objs.size) { s with heap := h', toks := s.toks + 1 }) :
    wpAny (model prog w) A (Builtin.«enumerate.__next__» ⟨[.ref e], []⟩) (fun r s' => ∃ v, r = .done (.ret v) ∧ Q v s') E s := by
  obtain ⟨hp, g, d, tk, os⟩ := s
  show wpAny _ _ (field (.ref e) 2 >>= _) _ E _
  refine wpAny_bind (wpAny_field (x := .ref it) he rfl rfl ?_)
  refine wpAny_bind (hn _ fun x h1 gx e1 => ?_)
  show wpAny _ _ (field (.ref e) 3 >>= _) _ E ⟨h1, g, d, tk, os⟩
  refine wpAny_bind (wpAny_field (x := rawInt c) e1 rfl rfl ?_)
  show wpAny _ _ (field (.ref e) 4 >>= _) _ E ⟨h1, g, d, tk, os⟩
  refine wpAny_bind (wpAny_field (x := .none) e1 rfl rfl ?_)
  show wpAny _ _ (mkInt c >>= _) _ E ⟨h1, g, d, tk, os⟩
  refine wpAny_bind (wpAny_mkInt (?_))
  show wpAny _ _ (setField (.ref e) 3 (rawInt (c + 1)) >>= _) _ E ⟨h1, g, d, tk + 1, os⟩
  refine wpAny_bind (wpAny_setField_rec (s := ⟨h1, g, d, tk + 1, os⟩) e1 (by simp) fun h2 e2 b2 => ?_)
  replace b2 : Heap.SameBut e h1 h2 := b2
  replace e2 : IsEnum h2 e it (c + 1) old := e2
  show wpAny _ _ (setField (.ref e) 4 .none >>= _) _ E ⟨h2, g, d, tk + 1, os⟩
  refine wpAny_bind (wpAny_setField_rec (s := ⟨h2, g, d, tk + 1, os⟩) e2 (by simp) fun h3 e3 b3 => ?_)
  replace b3 : Heap.SameBut e h2 h3 := b3
  replace e3 : IsEnum h3 e it (c + 1) old := e3
  show wpAny _ _ (newTuple [.int c tk, x] >>= _) _ E ⟨h3, g, d, tk + 1, os⟩
  refine wpAny_bind (wpAny_newTuple (?_))
  have e4 : IsEnum (h3.push { cls := .type "tuple", data := .seq #[.int c tk, x] }) e it (c + 1) old := Heap.get?_push_of_some _ e3
  generalize eq4 : h3.push { cls := .type "tuple", data := .seq #[.int c tk, x] } = h4 at e4
  have sz3 : h3.objs.size = h1.objs.size := by rw [b3.1, b2.1]
  have el : e < h1.objs.size := Heap.lt_size e1
  have t4 : h4.get? h1.objs.size = some { cls := .type "tuple", data := .seq #[.int c tk, x] } := by rw [← eq4, ← sz3]; exact Heap.get?_push_size _ rfl
  have sz4 : h4.objs.size = h1.objs.size + 1 := by rw [← eq4, Heap.size_push, sz3]
  have k4 : ∀ b o, b ≠ e → h1.get? b = some o → h4.get? b = some o := fun b o hb q => by
    rw [← eq4]; exact Heap.get?_push_of_some _ (b3.extBut b o hb (b2.extBut b o hb q))
  show wpAny _ _ (Builtin.SmallTypes.ownedTupleIsFree (.ref e) >>= _) _ E ⟨h4, g, d, tk + 1, os⟩
  rw [sz3]
  clear eq4 e3 b3 e2 b2 sz3 h3 h2
  refine wpAny_bind (?_)
  unfold Builtin.SmallTypes.ownedTupleIsFree
  refine wpAny_bind (wpAny_field (x := .none) e4 rfl rfl (wpAny_pure ?_))
  simp only [if_true]
  refine wpAny_bind (wpAny_rule (?_))
  refine wpAny_bind (wpAny_field (x := old) e4 rfl rfl ?_)
  refine wpAny_bind (wpAny_setField_rec (s := ⟨h4, g, d, tk + 1, os⟩) e4 (by simp) fun h5 e5 b5 => ?_)
  replace b5 : Heap.SameBut e h4 h5 := b5
  replace e5 : IsEnum h5 e it (c + 1) x := e5
  show wpAny _ _ (Builtin.SmallTypes.ownedTupleHandOut (.ref e) (.ref h1.objs.size) >>= _) _ E ⟨h5, g, d, tk + 1, os⟩
  refine wpAny_bind (?_)
  unfold Builtin.SmallTypes.ownedTupleHandOut
  refine wpAny_bind (wpAny_setField_rec (s := ⟨h5, g, d, tk + 1, os⟩) e5 (by simp) fun h6 e6 b6 => ?_)
  replace b6 : Heap.SameBut e h5 h6 := b6
  replace e6 : IsEnumOut h6 e it (c + 1) x h1.objs.size := e6
  refine wpAny_setField_rec (s := ⟨h6, g, d, tk + 1, os⟩) e6 (by simp) fun h7 e7 b7 => ?_
  replace b7 : Heap.SameBut e h6 h7 := b7
  replace e7 : IsEnumOut h7 e it (c + 1) x h1.objs.size := e7
  refine wpAny_bind (wpAny_letGo (wpAny_pure ⟨_, rfl, fin x h1 h7 gx e1 e7 ?_ ?_ ?_⟩))
  · exact b7.extBut _ _ (Nat.ne_of_gt el) (b6.extBut _ _ (Nat.ne_of_gt el) (b5.extBut _ _ (Nat.ne_of_gt el) t4))
  · rw [b7.1, b6.1, b5.1, sz4]
  · exact fun b o hb q => b7.extBut b o hb (b6.extBut b o hb (b5.extBut b o hb (k4 b o hb q)))
theorem zs_nextOf {z TI TO i1 i2 l1 l2 : Addr} {k : Nat} {xs ys : Array Value} {x y a b o : Value} {f : Bool} {Q : Value → Shared → Prop} (D : ZipApart z TI TO i1 i2 l1 l2)
    (hz : ZS s.heap z TI TO o f) (ho : OutV o) (hTI : IsPair s.heap TI (.ref i1) (.ref i2)) (hTO : IsPair s.heap TO a b)
    (p1 : s.heap.IsListIter i1 l1 k) (p2 : s.heap.IsListIter i2 l2 k) (q1 : s.heap.IsList l1 xs) (q2 : s.heap.IsList l2 ys) (hx : xs[k]? = some x) (hy : ys[k]? = some y)
    (fin : ∀ h' o' f' a' b', OutV o' → ZS h' z TI TO o' f' → IsPair h' TO a' b' → h'.IsListIter i1 l1 (k + 1) → h'.IsListIter i2 l2 (k + 1) → IsPair h' s.heap.objs.size x y → h'.objs.size = s.heap.objs.size + 1 →
      (∀ c u, c ≠ z → c ≠ TO → c ≠ i1 → c ≠ i2 → s.heap.get? c = some u → h'.get? c = some u) → Q (.ref s.heap.objs.size) { s with heap := h' }) :
    wpAny (model prog w) A (Builtin.SmallTypes.nextOf (.ref z)) Q E s := by
  have ty : s.TypeIs (.ref z) "zip" := ⟨_, hz, rfl⟩
  unfold Builtin.SmallTypes.nextOf
  exact wpAny_bind (wpAny_callSpecial?_slot (name := Str.ofString "__next__") ty F.slot_zip_next (wpAny_call_entry F.slot_zip_next ty F.entry_zip_next
    (zs_item D hz ho hTI hTO p1 p2 q1 q2 hx hy fun h' o' f' a' b' g1 g2 g3 g4 g5 g6 g7 g8 => wpAny_pure (fin h' o' f' a' b' g1 g2 g3 g4 g5 g6 g7 g8)) (F.args_zip_next_1 _)))
theorem zs_nextOf_end {z TI TO i1 i2 l1 l2 : Addr} {k : Nat} {xs ys : Array Value} {a b o : Value} {f : Bool} {Q : Value → Shared → Prop} (hh : A.in1.handled = none) (D : ZipApart z TI TO i1 i2 l1 l2)
    (hz : ZS s.heap z TI TO o f) (ho : OutV o) (hTI : IsPair s.heap TI (.ref i1) (.ref i2)) (hTO : IsPair s.heap TO a b)
    (p1 : s.heap.IsListIter i1 l1 k) (p2 : s.heap.IsListIter i2 l2 k) (q1 : s.heap.IsList l1 xs) (q2 : s.heap.IsList l2 ys) (hend : xs[k]? = none ∨ ys[k]? = none)
    (fin : ∀ h' e, (∀ c u, c ≠ z → c ≠ TO → c ≠ i1 → c ≠ i2 → s.heap.get? c = some u → h'.get? c = some u) → (∃ u, h'.get? e = some u ∧ u.cls = .type "StopIteration") → E (.ref e) { s with heap := h' }) :
    wpAny (model prog w) A (Builtin.SmallTypes.nextOf (.ref z)) Q E s := by
  have ty : s.TypeIs (.ref z) "zip" := ⟨_, hz, rfl⟩
  unfold Builtin.SmallTypes.nextOf
  exact wpAny_bind (wpAny_callSpecial?_slot (name := Str.ofString "__next__") ty F.slot_zip_next (wpAny_call_entry F.slot_zip_next ty F.entry_zip_next
    (zs_end hh D hz ho hTI hTO p1 p2 q1 q2 hend fin) (F.args_zip_next_1 _)))
end
end VS

set_option Elab.async false
set_option linter.all false
set_option maxRecDepth 100000
set_option maxHeartbeats 4000000
namespace VS
open PySem PySem.Spec PyProof.Rows L2
def ItEZ (K : PySem.W.Frag) (a b : Addr) : It :=
  ⟨fun i H => ∃ (xs ys : List V) (x y : V), SqL K H a xs ∧ SqL K H b ys ∧ xs[i]? = some x ∧ ys[i]? = some y,
    fun i H v H' => ∃ T1 T2 x y, v = .ref T2 ∧ H T1 = none ∧ H T2 = none ∧ T1 ≠ T2 ∧ H' = upd (upd H T1 (.tup [x, y])) T2 (.tup [.int (i : Nat), .ref T1]) ∧ (∀ xs, SqL K H a xs → xs[i]? = some x) ∧ ∀ ys, SqL K H b ys → ys[i]? = some y,
    fun i H => ∃ xs ys : List V, SqL K H a xs ∧ SqL K H b ys ∧ (xs.length ≤ i ∨ ys.length ≤ i)⟩
structure EApart (e z TI TO i1 i2 : Addr) : Prop where
  z : e ≠ z
  TI : e ≠ TI
  TO : e ≠ TO
  i1 : e ≠ i1
  i2 : e ≠ i2
theorem apart5 (n : Nat) : EApart (n + 5) (n + 4) (n + 2) (n + 3) n (n + 1) := ⟨Nat.ne_of_gt (by omega), Nat.ne_of_gt (by omega), Nat.ne_of_gt (by omega), Nat.ne_of_gt (by omega), Nat.ne_of_gt (by omega)⟩
def tnEZ (a b e z TI TO i1 i2 : Addr) (i : Nat) (h : Heap) : Prop :=
  (∃ old, IsEnum h e z (0 + (i : Int)) old) ∧ (∃ o f, OutV o ∧ ZS h z TI TO o f) ∧ IsPair h TI (.ref i1) (.ref i2) ∧ (∃ x y, IsPair h TO x y) ∧ h.IsListIter i1 a i ∧ h.IsListIter i2 b i
theorem upd_none {H : Hp} {T b : Addr} {o : HO} (h : H b = none) (n : b ≠ T) : upd H T o b = none := by rw [upd_ne n]; exact h
theorem turn_enumZ {P : Program} {w : World} {K : PySem.W.Frag} {elts : List Expr} {kk : Nat} {tpos : Pos} {a b e z TI TO i1 i2 : Addr} (D : ZipApart z TI TO i1 i2 a b) (D2 : EApart e z TI TO i1 i2) :
    Turn P w K (.Tuple elts kk tpos) (ItEZ K a b) [e, z, TI, TO, i1, i2] e (tnEZ a b e z TI TO i1 i2) where
  mem := List.mem_cons_self
  obj := by
    rintro i h ⟨⟨old, he⟩, ⟨o, f, _, hz⟩, hTI, ⟨x, y, hTO⟩, ⟨o1, e1, _, d1⟩, ⟨o2, e2, _, d2⟩⟩ c hc
    simp only [List.mem_cons, List.not_mem_nil, or_false] at hc
    rcases hc with q | q | q | q | q | q
    · rw [q]; exact ⟨_, he, fun v q => nomatch q⟩
    · rw [q]; exact ⟨_, hz, fun v q => nomatch q⟩
    · rw [q]; exact ⟨_, hTI, fun v q => nomatch q⟩
    · rw [q]; exact ⟨_, hTO, fun v q => nomatch q⟩
    · rw [q]; exact ⟨o1, e1, fun v r => by rw [d1] at r; cases r⟩
    · rw [q]; exact ⟨o2, e2, fun v r => by rw [d2] at r; cases r⟩
  keep := by
    rintro i h h' ⟨⟨old, he⟩, ⟨o, f, ho, hz⟩, hTI, ⟨x, y, hTO⟩, t1, t2⟩ k
    exact ⟨⟨old, k e (by simp) _ he⟩, ⟨o, f, ho, k z (by simp) _ hz⟩, k TI (by simp) _ hTI, ⟨x, y, k TO (by simp) _ hTO⟩, t1.at fun o q => k i1 (by simp) o q, t2.at fun o q => k i2 (by simp) o q⟩
  item := by
    rintro X rfl rfl rfl hc i pins s σ H E I hf ⟨⟨old, he⟩, ⟨o, f, ho, hz⟩, hTI, ⟨x0, y0, hTO⟩, t1, t2⟩ ⟨xs, ys, x, y, hqx, hqy, hx, hy⟩
    obtain ⟨its, rv, p, _⟩ := I.list hqx
    obtain ⟨its2, rv2, p2, _⟩ := I.list hqy
    obtain ⟨u, hu, ru⟩ := rv.get hx
    obtain ⟨u2, hu2, ru2⟩ := rv2.get hy
    have el : e < s.heap.objs.size := Heap.lt_size he
    have ty : s.TypeIs (.ref e) "enumerate" := ⟨_, he, rfl⟩
    unfold pyNext
    refine wpAny_bind (wpAny_attempt (wpAny_callSpecial?_slot (name := Str.ofString "__next__") ty F.slot_enumerate_next (wpAny_call_entry F.slot_enumerate_next ty F.entry_enumerate_next
      (enumAny_item (Gx := fun v h1 => v = .ref s.heap.objs.size ∧ ∃ o' f' a' b', OutV o' ∧ ZS h1 z TI TO o' f' ∧ IsPair h1 TO a' b' ∧ h1.IsListIter i1 a (i + 1) ∧ h1.IsListIter i2 b (i + 1) ∧ IsPair h1 s.heap.objs.size u u2 ∧ h1.objs.size = s.heap.objs.size + 1 ∧
        (∀ c u, c ≠ z → c ≠ TO → c ≠ i1 → c ≠ i2 → s.heap.get? c = some u → h1.get? c = some u)) he (fun Q' q' => zs_nextOf D hz ho hTI hTO t1 t2 p.isList p2.isList (x := u) (y := u2) (by simpa using hu) (by simpa using hu2)
          fun h' o' f' a' b' g1 g2 g3 g4 g5 g6 g7 g8 => q' _ h' ⟨rfl, o', f', a', b', g1, g2, g3, g4, g5, g6, g7, g8⟩ (g8 e _ D2.z D2.TO D2.i1 D2.i2 he)) ?_) (F.args_enumerate_next_1 _))))
    rintro v h1 h2 ⟨rfl, o', f', a', b', g1, g2, g3, g4, g5, g6, g7, g8⟩ e1 e2 n2 sz2 k2
    refine wpAny_pure ⟨_, rfl, wpAny_letOwnedTupleGo_enum (s := { s with heap := h2, toks := s.toks + 1 }) e2 fun h3 e3 b3 => ?_⟩
    replace b3 : Heap.SameBut e h2 h3 := b3
    have k3 : ∀ c u, c ≠ e → h1.get? c = some u → h3.get? c = some u := fun c u n q => b3.extBut c u n (k2 c u n q)
    have new1 : ObjOk X.prog X.w (upd H s.heap.objs.size (.tup [x, y])) h1 s.heap.objs.size (.tup [x, y]) := ⟨by show 2 ≤ sizeLine; decide, [u, u2], .cons ru (.cons ru2 .nil), ⟨_, g6, rfl, _, rfl⟩⟩
    have I1 : Inv X pins σ (upd H s.heap.objs.size (.tup [x, y])) { s with heap := h1, toks := s.toks } :=
      I.turnedNew (t' := s.toks) (ch := [e, z, TI, TO, i1, i2]) (fun c o hb q => g8 c o (fun q' => hb (by simp [q'])) (fun q' => hb (by simp [q'])) (fun q' => hb (by simp [q'])) (fun q' => hb (by simp [q'])) q) hf (Nat.le_refl _) new1
    have lt : ∀ c ∈ [e, z, TI, TO, i1, i2], c < s.heap.objs.size := by
      intro c hc
      simp only [List.mem_cons, List.not_mem_nil, or_false] at hc
      rcases hc with q | q | q | q | q | q
      · rw [q]; exact el
      · rw [q]; exact Heap.lt_size hz
      · rw [q]; exact Heap.lt_size hTI
      · rw [q]; exact Heap.lt_size hTO
      · rw [q]; obtain ⟨_, q1, _⟩ := t1; exact Heap.lt_size q1
      · rw [q]; obtain ⟨_, q1, _⟩ := t2; exact Heap.lt_size q1
    have hf1 : ∀ c ∈ [e, z, TI, TO, i1, i2], FpOk X pins (upd H s.heap.objs.size (.tup [x, y])) c := fun c hc => by
      obtain ⟨f1, f2⟩ := hf c hc
      exact ⟨upd_none f1 (Nat.ne_of_lt (lt c hc)), f2⟩
    have hN1 : (upd H s.heap.objs.size (.tup [x, y])) h1.objs.size = none := I1.hok.fresh (Nat.le_refl _)
    have new2 : ObjOk X.prog X.w (upd (upd H s.heap.objs.size (.tup [x, y])) h1.objs.size (.tup [.int (i : Nat), .ref s.heap.objs.size])) h3 h1.objs.size (.tup [.int (i : Nat), .ref s.heap.objs.size]) := by
      refine ⟨by show 2 ≤ sizeLine; decide, [.int (0 + (i : Int)) s.toks, .ref s.heap.objs.size], .cons ⟨s.toks, by rw [Int.zero_add]⟩ (.cons rfl .nil), ⟨_, b3.extBut _ _ (Nat.ne_of_gt (Nat.lt_of_lt_of_le el (by omega))) n2, rfl, _, rfl⟩⟩
    have I2 : Inv X pins σ (upd (upd H s.heap.objs.size (.tup [x, y])) h1.objs.size (.tup [.int (i : Nat), .ref s.heap.objs.size])) { s with heap := h3, toks := s.toks + 1 } :=
      I1.turnedNew (s := { s with heap := h1, toks := s.toks }) (t' := s.toks + 1) (ch := [e, z, TI, TO, i1, i2]) (fun c o hb q => k3 c o (fun q' => hb (by simp [q'])) q) hf1 (Nat.le_refl _) new2
    refine ⟨.ref h1.objs.size, _, I2, rfl, ⟨_, _, x, y, rfl, I.hok.fresh (Nat.le_refl _), I.hok.fresh (by omega), Nat.ne_of_lt (by omega), rfl, fun l hl => by rw [I.list_inj hl hqx]; exact hx, fun l hl => by rw [I.list_inj hl hqy]; exact hy⟩, ⟨⟨.ref s.heap.objs.size, ?_⟩, ⟨o', f', g1, k3 z _ D2.z.symm g2⟩, k3 TI _ D2.TI.symm (g8 TI _ D.TIz D.TITO D.TIi1 D.TIi2 hTI), ⟨a', b', k3 TO _ D2.TO.symm g3⟩, g4.at fun o q => k3 i1 o D2.i1.symm q, g5.at fun o q => k3 i2 o D2.i2.symm q⟩, fun c hcm => ?_⟩
    · have q : (0 : Int) + ((i + 1 : Nat) : Int) = 0 + (i : Int) + 1 := by omega
      rw [q]
      exact e3
    · have q := lt c hcm
      have q2 : s.heap.objs.size < h1.objs.size := by rw [g7]; exact Nat.lt_succ_self _
      rw [upd_ne (Nat.ne_of_lt (Nat.lt_trans q q2)), upd_ne (Nat.ne_of_lt q)]
      exact (hf c hcm).1
  done := by
    rintro X rfl rfl rfl hc i pins s σ H E I hf ⟨⟨old, he⟩, ⟨o, f, ho, hz⟩, hTI, ⟨x0, y0, hTO⟩, t1, t2⟩ ⟨xs, ys, hqx, hqy, hend⟩
    obtain ⟨its, rv, p, _⟩ := I.list hqx
    obtain ⟨its2, rv2, p2, _⟩ := I.list hqy
    have l1 := rv.length
    have l2 := rv2.length
    have hen : its.toArray[i]? = none ∨ its2.toArray[i]? = none := by
      rcases hend with q | q
      · exact .inl (by simp; omega)
      · exact .inr (by simp; omega)
    have ty : s.TypeIs (.ref e) "enumerate" := ⟨_, he, rfl⟩
    unfold pyNext
    refine wpAny_bind (wpAny_attempt (wpAny_callSpecial?_slot (name := Str.ofString "__next__") ty F.slot_enumerate_next (wpAny_call_entry F.slot_enumerate_next ty F.entry_enumerate_next ?_ (F.args_enumerate_next_1 _))))
    show wpAny _ _ (field (.ref e) 2 >>= _) _ _ s
    refine wpAny_bind (wpAny_field (x := .ref z) he rfl rfl ?_)
    refine wpAny_bind (zs_nextOf_end (I.ok.hd hc) D hz ho hTI hTO t1 t2 p.isList p2.isList hen fun h' x kp hx' => ?_)
    obtain ⟨ob, hob, hcl⟩ := hx'
    refine wpAny_bind (wpAny_isInstance (T := "StopIteration") (b := true) ⟨ob, hob, hcl⟩ isSubtype_stop ?_)
    exact wpAny_pure ⟨rfl, I.turnedL (t' := s.toks) (ch := [e, z, TI, TO, i1, i2]) (fun c o hb q => kp c o (fun q' => hb (by simp [q'])) (fun q' => hb (by simp [q'])) (fun q' => hb (by simp [q'])) (fun q' => hb (by simp [q'])) q) hf⟩
  self := by
    rintro A i s Q E ⟨⟨old, he⟩, _⟩ h
    exact wpAny_pyIter_enum he h
theorem made_enumZ (z TI TO : Addr) : Meets (Builtin.«enumerate.__new__» ⟨[.type "enumerate", .ref z], []⟩)
    (fun _ R s => IsZip s.heap z TI TO .none ∧ R (.ok (.ret (.ref s.heap.objs.size))) { s with heap := s.heap.push (enumAt z) }) := by
  refine .of_wp fun prog w A R s q => ?_
  rcases s with ⟨h0, gs, dr, tk, os⟩
  rcases q with ⟨ht, q⟩
  have known := sub_enumerate
  have begins : ∀ {A' : Around} {E : Value → Shared → Prop} {Q : Value → Shared → Prop}, Q (.ref z) ⟨h0, gs, dr, tk, os⟩ → wpAny (model prog w) A' (pyIter (.ref z)) Q E ⟨h0, gs, dr, tk, os⟩ :=
    fun zz => wpAny_pyIter_zip (s := ⟨h0, gs, dr, tk, os⟩) ht zz
  wp_walk using begins
  refine wpAny_stack_any fun st => wpAny_pure ?_
  split
  · rename_i cl _ _ _ _ _
    cases (cl == Value.type "enumerate") <;> (wp_walk using begins; exact ⟨_, rfl, q⟩)
  · wp_walk using begins
    exact ⟨_, rfl, q⟩
theorem call_enumZ {prog : Program} {w : World} {A : Around} {E : Value → Shared → Prop} {s : Shared} {z TI TO : Addr} {Q : Value → Shared → Prop} (ht : IsZip s.heap z TI TO .none)
    (q : ∀ h', IsEnum h' s.heap.objs.size z 0 .none → (∀ b o, s.heap.get? b = some o → h'.get? b = some o) → Q (.ref s.heap.objs.size) { s with heap := h' }) :
    wpAny (model prog w) A (call (.type "enumerate") [.ref z]) Q E s := by
  have at1 : IsEnum (s.heap.push (enumAt z)) s.heap.objs.size z 0 .none := Heap.get?_push_size s.heap (o := enumAt z) rfl
  have fin := q _ at1 fun b o zz => Heap.get?_push_of_some _ zz
  exact callType_new F.called_enumerate (by decide) (F.typeCall_enumerate_1 _) (F.newCall_enumerate_1 _) (fun ob => F.args_object_init_2 ob _) F.entry_enumerate_new (made_enumZ z TI TO) ⟨ht, ⟨_, at1, rfl⟩, fin⟩
def iEnumZ (K : PySem.W.Frag) (ta : TA) : TI := fun σ H R => ta σ H fun vs H1 => ∃ a b xs ys, vs = [.ref a, .ref b] ∧ SqL K H1 a xs ∧ SqL K H1 b ys ∧ R (ItEZ K a b) H1
theorem pi_enumZ {X : Cx} {e e2 : Expr} {ta : TA} {p p2 pos pos2 tpos : Pos} {elts : List Expr} {kk : Nat} (hg : Gl X "enumerate") (hm : X.mg "enumerate" = none) (hg2 : Gl X "zip") (hm2 : X.mg "zip" = none) (ha : PA X [e, e2] ta)
    (one : starEach [(.Call (.Name "zip" p2) [e, e2] [] pos2)] X.env = [(false, eval (.Call (.Name "zip" p2) [e, e2] [] pos2) X.env)] := by rfl)
    (hs : starEach [e, e2] X.env = (false, eval e X.env) :: starEach [e2] X.env := by rfl) (hpl : (backTo pos2 (starEach [e2] X.env)).any (·.1) = false := by rfl) :
    PI X (.Tuple elts kk tpos) (.Call (.Name "enumerate" p) [.Call (.Name "zip" p2) [e, e2] [] pos2] [] pos) (iEnumZ X.K ta) := by
  constructor
  intro pins s σ H R I q
  refine Call_ (ld_blt I hg hm boot_enumerate (PyProof.Rows.callWith_type1 ?_ one rfl))
  rw [one]
  show wpAny _ _ (spliced ((false, eval (.Call (.Name "zip" p2) [e, e2] [] pos2) X.env) :: [])) _ _ s
  refine Calls.spliced_cons (Call_ (ld_blt I hg2 hm2 PyProof.Rows.boot_zip (PyProof.Rows.callWith_type1 (thn (ha.run pos2 pins s σ H _ I q) ?_) hs hpl)))
  rintro us s1 ⟨vs, H1, I1, r1, a, b, xs, ys, rfl, hqx, hqy, fin⟩
  cases r1 with
  | cons r rr =>
    cases rr with
    | cons r' rr =>
      cases rr
      cases r
      cases r'
      obtain ⟨its, rv, p1, _⟩ := I1.list hqx
      obtain ⟨its2, rv2, p2, _⟩ := I1.list hqy
      have la : a < s1.heap.objs.size := p1.lt
      have lb : b < s1.heap.objs.size := p2.lt
      refine call_zip_2 p1.isList p2.isList fun h' hz hTI hTO h1 h2 hsz hk => Calls.spliced_nil ?_
      refine call_enumZ (s := { s1 with heap := h' }) hz fun h3 he hk3 => wpAny_pyIter_enum he ?_
      have I2 : Inv X pins σ H1 { s1 with heap := h3 } := I1.kept (t' := s1.toks) fun c o q => hk3 c o (hk c o q)
      have E5 : (Shared.heap { s1 with heap := h' }).objs.size = s1.heap.objs.size + 5 := hsz
      rw [E5] at he ⊢
      refine ⟨s1.heap.objs.size + 5, [s1.heap.objs.size + 5, s1.heap.objs.size + 4, s1.heap.objs.size + 2, s1.heap.objs.size + 3, s1.heap.objs.size, s1.heap.objs.size + 1], _, _, H1, rfl, I2, turn_enumZ (PySem.W.ktu_apart s1.heap.objs.size a b la lb) (apart5 s1.heap.objs.size),
        ⟨⟨.none, he⟩, ⟨.none, false, .inl rfl, hk3 _ _ hz⟩, hk3 _ _ hTI, ⟨_, _, hk3 _ _ hTO⟩, h1.at fun o q => hk3 _ o q, h2.at fun o q => hk3 _ o q⟩, fun c hcm => ?_, fin⟩
      have le : s1.heap.objs.size ≤ c := by
        simp only [List.mem_cons, List.not_mem_nil, or_false] at hcm
        rcases hcm with q | q | q | q | q | q <;> (rw [q]; first | exact Nat.le_add_right _ _ | exact Nat.le_refl _)
      exact I1.fpOk le (I1.hok.fresh le)
/-- the data: (place, (x, y)) -/
def iEnZ (a : SA) : SI := fun ρ => match a ρ with
  | some ([.lst xs, .lst ys], ρ') => some (enumF 0 (zipD xs ys), ρ')
  | _ => none
section
variable {c : Ctx} {X : Cx}
theorem yields_enumZ {K : PySem.W.Frag} {F0 : Hp} {a b : Addr} {us ws : List V} {ds es : List D} (h : F0 a = some (.lst us)) (r : Reps c.G F0 us ds) (h' : F0 b = some (.lst ws)) (r' : Reps c.G F0 ws es) : Yields c.G (ItEZ K a b) F0 (enumF 0 (zipD ds es)) := by
  intro F H e1 e2
  have hH : SqL K H a us := .of (e2 _ _ (e1 _ _ h))
  have hH' : SqL K H b ws := .of (e2 _ _ (e1 _ _ h'))
  refine ⟨fun i d hd => ?_, us, ws, hH, hH', by rw [enumF_length, zipD_length, r.length, r'.length]; omega⟩
  rw [enumF_get] at hd
  cases ez : (zipD ds es)[i]? with
  | none => rw [ez] at hd; cases hd
  | some d0 =>
    rw [ez] at hd; cases hd
    obtain ⟨x, y, g1, g2, rfl⟩ := zipD_get ez
    obtain ⟨v, h1, h2⟩ := r.get g1
    obtain ⟨v', h1', h2'⟩ := r'.get g2
    refine ⟨⟨us, ws, v, v', hH, hH', h1, h1'⟩, fun q H' yy => ?_⟩
    obtain ⟨T1, T2, w, w', y1, y2, y3, y4, y5, y6, y7⟩ := yy
    have := y6 us hH
    rw [h1] at this; cases this
    have := y7 ws hH'
    rw [h1'] at this; cases this
    subst y1 y5
    have G1 : Grow F H (upd F T1 (.tup [v, v'])) (upd H T1 (.tup [v, v'])) := .new e2 y2
    have n2 : (upd H T1 (.tup [v, v'])) T2 = none := by rw [upd_ne y4.symm]; exact y3
    have G2 := Grow.new (o := .tup [.int (i : Nat), .ref T1]) G1.fh n2
    have ex := Ext.upd (o := .tup [v, v']) (ext_none e2 y2)
    have ex2 := Ext.upd (o := .tup [.int (i : Nat), .ref T1]) (ext_none G1.fh n2)
    refine ⟨_, G1.trans G2, .tup upd_same (.cons ?_ (.cons ?_ .nil))⟩
    · rw [Nat.zero_add]
      exact .int _
    · refine .tup (ex2 _ _ upd_same) (.cons (((h2.ext e1).ext ex).ext ex2) (.cons (((h2'.ext e1).ext ex).ext ex2) .nil))
theorem vi_enumZ {e e2 : Expr} {sa : SA} {p p2 pos pos2 tpos : Pos} {elts : List Expr} {kk : Nat} (hm : X.mg "enumerate" = none) (hm2 : X.mg "zip" = none) (ha : PA X [e, e2] (va c sa)) (hg : Gl X "enumerate" := by rfl) (hg2 : Gl X "zip" := by rfl)
    (one : starEach [(.Call (.Name "zip" p2) [e, e2] [] pos2)] X.env = [(false, eval (.Call (.Name "zip" p2) [e, e2] [] pos2) X.env)] := by rfl)
    (hs : starEach [e, e2] X.env = (false, eval e X.env) :: starEach [e2] X.env := by rfl) (hpl : (backTo pos2 (starEach [e2] X.env)).any (·.1) = false := by rfl) :
    PI X (.Tuple elts kk tpos) (.Call (.Name "enumerate" p) [.Call (.Name "zip" p2) [e, e2] [] pos2] [] pos) (vi c (iEnZ sa)) :=
  pi_of (pi_enumZ hg hm hg2 hm2 ha one hs hpl) fun σ H R ⟨F, ρ, I, ds, ρ', e, q⟩ => by
    unfold iEnZ at e
    split at e
    · rename_i xs ys ρ1 e1
      cases e
      refine ⟨F, ρ, I, _, ρ', e1, fun vs H1 F1 x1 I1 r1 => ?_⟩
      obtain ⟨v, v', ev, r, r'⟩ := reps2 r1
      cases r with
      | lst h1 rs =>
        cases r' with
        | lst h2 rs' => exact ⟨_, _, _, _, ev, .of (I1.fh _ _ h1), .of (I1.fh _ _ h2), q _ _ F1 x1 I1 (yields_enumZ h1 rs h2 rs')⟩
    · cases e
end
end VS

set_option Elab.async false
set_option linter.all false
set_option maxRecDepth 100000
set_option maxHeartbeats 4000000
namespace VS
open PySem PySem.Spec PyProof.Rows L2
/-! a global constant; a text walked; the built-ins by name -/
theorem ve_glob {c : Ctx} {X : Cx} {x : Str} {d : Str} {p : Pos} (h : ∃ u, X.mg x = some u ∧ RelV (.str d) u) (hg : Gl X x := by rfl) (hd : (x == ("__debug__" : Str)) = false := by decide) : PE X (.Name x p) (vt c (sK (.str d))) := by
  obtain ⟨u, h1, h2⟩ := h
  exact ve_k (pe_glob hg h1 h2 hd) fun _ => .str d
def chars (x : Str) : List D := x.cps.toList.map fun c => .str ⟨#[c]⟩
def iStr (a : SE) : SI := fun ρ => match a ρ with
  | some (.str x, ρ') => some (chars x, ρ')
  | _ => none
theorem yields_str {G : Gx} {F0 : Hp} (x : Str) : Yields G (Its x) F0 (chars x) := by
  intro F H e1 e2
  refine ⟨fun i d hd => ?_, by show x.cps.size ≤ _; simp [chars]⟩
  unfold chars at hd
  rw [List.getElem?_map, Array.getElem?_toList] at hd
  cases e : x.cps[i]? with
  | none => rw [e] at hd; cases hd
  | some ch =>
    rw [e] at hd; cases hd
    refine ⟨(Array.getElem?_eq_some_iff.mp e).1, fun v H' y => ?_⟩
    obtain ⟨rfl, ch', h1, rfl⟩ := y
    rw [e] at h1; cases h1
    exact ⟨F, .refl e2, .str _⟩
theorem vi_str {c : Ctx} {X : Cx} {tg e : Expr} {a : SE} (h : PE X e (vt c a)) : PI X tg e (vi c (iStr a)) := pi_of (pi_str h) fun σ H R ⟨F, ρ, I, ds, ρ', e, q⟩ => by
  unfold iStr at e
  split at e
  · rename_i x ρ1 e1
    cases e
    refine ⟨F, ρ, I, _, ρ', e1, fun v H1 F1 x1 I1 r1 => ?_⟩
    cases r1
    exact ⟨_, rfl, q _ _ F1 x1 I1 (yields_str _)⟩
  · cases e
/-- so many turns of a while as its number tells -/
def fuelI (j : Nat) : Rho → Nat := fun ρ => match ρ[j]? with
  | some (.val (.int n)) => n.natAbs + 2
  | _ => 0
theorem bt_len : bootBuiltins "len" = some (.builtin "len") := by decide +kernel
theorem bt_abs : bootBuiltins "abs" = some (.builtin "abs") := by decide +kernel
theorem bt_max : bootBuiltins "max" = some (.builtin "max") := by decide +kernel
theorem bt_min : bootBuiltins "min" = some (.builtin "min") := by decide +kernel
theorem bt_sum : bootBuiltins "sum" = some (.builtin "sum") := by decide +kernel
theorem bt_sorted : bootBuiltins "sorted" = some (.builtin "sorted") := by decide +kernel
theorem bt_int : bootBuiltins "int" = some (.type "int") := by decide +kernel
theorem bt_str : bootBuiltins "str" = some (.type "str") := by decide +kernel
theorem bt_list : bootBuiltins "list" = some (.type "list") := by decide +kernel
theorem bt_tuple : bootBuiltins "tuple" = some (.type "tuple") := by decide +kernel
theorem bt_ty0 : bootBuiltins "bool" = some (.type (tyName 0)) := by decide +kernel
theorem bt_ty1 : bootBuiltins "int" = some (.type (tyName 1)) := by decide +kernel
theorem bt_ty2 : bootBuiltins "str" = some (.type (tyName 2)) := by decide +kernel
theorem bt_ty3 : bootBuiltins "list" = some (.type (tyName 3)) := by decide +kernel
theorem bt_ty4 : bootBuiltins "tuple" = some (.type (tyName 4)) := by decide +kernel
end VS

set_option Elab.async false
set_option linter.all false
set_option maxRecDepth 100000
set_option maxHeartbeats 4000000
namespace VS
open PySem PySem.Spec PyProof.Rows L2
/-! x == [], whatever the list x holds -/
def gEqL : G2
  | .lst xs, .lst [] => some (.bl xs.isEmpty)
  | _, _ => none
theorem op_eqLen {X : Cx} (hu : X.A.units + 64 < cLine) : OpR X (compareOp .Eq) (fun x y H Q => ∃ a b xs ys, x = .ref a ∧ y = .ref b ∧ SqL X.K H a xs ∧ SqL X.K H b ys ∧ xs.length ≠ ys.length ∧ Q (.bl false) H) := by
  intro pins s σ H x y v u Q I rx ry h
  obtain ⟨a, b, xs, ys, rfl, rfl, hx, hy, hne, q⟩ := h
  cases rx
  cases ry
  obtain ⟨its, rv, p, _⟩ := I.list hx
  obtain ⟨its2, rv2, p2, _⟩ := I.list hy
  have l1 := rv.length
  have l2 := rv2.length
  refine SeqAt.eq_list_lengthsAt p.isList p2.isList ?_ (by omega) ⟨.bl false, H, I, rfl, q⟩
  simp
  omega
theorem od_eqL {c : Ctx} {X : Cx} (hu : X.A.units + 64 < cLine) : OpD c X (compareOp .Eq) gEqL := opr_of ((op_eqLen hu).or (op_eqD hu)) fun x y H Q ⟨F, a, b, d, e, ra, rb, hg, q⟩ => by
  unfold gEqL at hg
  split at hg
  · rename_i xs
    cases hg
    cases ra with
    | lst h1 r1 =>
      cases rb with
      | lst h2 r2 =>
        cases r2
        cases r1 with
        | nil => exact .inr ⟨.list [], .list [], (Rep.lst (G := c.G) h1 .nil).dp (x := .list []) e rfl, (Rep.lst (G := c.G) h2 .nil).dp (x := .list []) e rfl, by decide, by decide, q.here e (.bl _)⟩
        | cons r r' => exact .inl ⟨_, _, _, _, rfl, rfl, .of (e _ _ h1), .of (e _ _ h2), by simp, q.here e (.bl _)⟩
  · cases hg
end VS

set_option Elab.async false
set_option linter.all false
set_option maxRecDepth 100000
set_option maxHeartbeats 4000000
namespace VS
open PySem PySem.Spec PyProof.Rows L2
/-! a, b, c = (e, [], []): b and c to be changed -/
def kPar3E (i j l : Nat) (e : SE) : SS := fun ρ => match e ρ with
  | some (d, ρ1) => some (.nx, ((ρ1.set i (.val d)).set j (.own [])).set l (.own []))
  | none => none
section
variable {c : Ctx} {X : Cx}
theorem vs_par3E {i j l : Nat} {x y z : Str} {a : Expr} {s : SE} {px py pz pt p1 p2 pos : Pos} {kt k2 pt2} (hc : X.calm = true) (hN : X.N.Nodup) (ha : PE X a (vt c s))
    (hw : swappedStores [.Tuple [.Name x px, .Name y py, .Name z pz] kt pt] (.Tuple [a, .List [] p1, .List [] p2] k2 pt2) X.env = pure (some [x, y, z]))
    (hi : X.N[i]? = some x := by rfl) (hj : X.N[j]? = some y := by rfl) (hl : X.N[l]? = some z := by rfl) (hij : i ≠ j := by decide) (hil : i ≠ l := by decide) (hjl : j ≠ l := by decide)
    (hx : X.env.scope.names.lookup x = some .local := by rfl) (hy : X.env.scope.names.lookup y = some .local := by rfl) (hz : X.env.scope.names.lookup z = some .local := by rfl)
    (h1 : starEach [a, .List [] p1, .List [] p2] X.env = (false, eval a X.env) :: starEach [.List [] p1, .List [] p2] X.env := by rfl)
    (h2 : starEach [.List [] p1, .List [] p2] X.env = (false, eval (.List [] p1) X.env) :: starEach [.List [] p2] X.env := by rfl)
    (h3 : starEach [.List [] p2] X.env = (false, eval (.List [] p2) X.env) :: starEach [] X.env := by rfl)
    (hs : swapsWithSole [.Tuple [.Name x px, .Name y py, .Name z pz] kt pt] (.Tuple [a, .List [] p1, .List [] p2] k2 pt2) pos.line X.env = pure false := by rfl) :
    PS X (.Assign [.Tuple [.Name x px, .Name y py, .Name z pz] kt pt] (.Tuple [a, .List [] p1, .List [] p2] k2 pt2) pos) (vs c (kPar3E i j l s)) :=
  ps_of (ps_par3 hc hN hi hj hl hij hil hjl hx hy hz (pa_cons ha (pa_cons (pe_lst pa_nil) (pa_cons (pe_lst pa_nil) pa_nil h3) h2) h1) hw hs) fun σ H E ⟨F, ρ, I, fl, ρ', e, q⟩ => by
    unfold kPar3E at e
    split at e
    · rename_i d ρ1 e1
      cases e
      refine ⟨F, ρ, I, d, ρ1, e1, fun v H1 F1 x1 I1 r1 => ⟨Nat.zero_le _, fun p hp => ⟨Nat.zero_le _, fun p' hp' => ⟨v, .ref p, .ref p', rfl, ?_⟩⟩⟩⟩
      exact q _ _ _ x1 (((I1.put i r1).fresh hp .nil j).fresh hp' .nil l)
    · cases e
end
end VS

set_option Elab.async false
set_option linter.all false
set_option maxRecDepth 100000
set_option maxHeartbeats 4000000
namespace VS
open PySem PySem.Spec PyProof.Rows L2
/-! x[::-1] of a list or a tuple -/
theorem adjust_rev (n : Nat) : Builtin.Slice.sliceAdjust none none (-1) (n : Int) = ((n : Int) - 1, -1) := rfl
theorem places_rev (n : Nat) : Builtin.Slice.slicePlaces ((n : Int) - 1) (-1) (-1) = n := by
  unfold Builtin.Slice.slicePlaces
  have h0 : ¬ ((-1 : Int) > 0) := by decide
  have h1 : (- -1 : Int) = 1 := by decide
  simp only [h0, if_false, h1, Int.ediv_one]
  split <;> omega
theorem fm_congr {α β : Type} {f g : α → Option β} : ∀ {l : List α}, (∀ x ∈ l, f x = g x) → l.filterMap f = l.filterMap g
  | [], _ => rfl
  | a :: l, h => by
    rw [List.filterMap_cons, List.filterMap_cons, h a List.mem_cons_self, fm_congr fun x hx => h x (List.mem_cons_of_mem _ hx)]
theorem pick_rev (xs : Array Value) : ((List.range xs.size).filterMap fun (k : Nat) => xs[((xs.size : Int) - 1 + (k : Int) * (-1)).toNat]?).toArray = xs.toList.reverse.toArray := by
  have e : ((List.range xs.size).filterMap fun (k : Nat) => xs[((xs.size : Int) - 1 + (k : Int) * (-1)).toNat]?) = (((List.range xs.size).map fun k => xs.size - 1 - k).filterMap (xs[·]?)) := by
    rw [List.filterMap_map]
    have : ∀ k ∈ List.range xs.size, xs[((xs.size : Int) - 1 + (k : Int) * (-1)).toNat]? = ((fun x => xs[x]?) ∘ fun k => xs.size - 1 - k) k := fun k hk => by
      have hk' := List.mem_range.mp hk
      show xs[((xs.size : Int) - 1 + (k : Int) * (-1)).toNat]? = xs[xs.size - 1 - k]?
      rw [show ((xs.size : Int) - 1 + (k : Int) * (-1)).toNat = xs.size - 1 - k by omega]
    exact fm_congr this
  rw [e, PySem.W.krv_range, List.filterMap_reverse, PySem.W.krv_all]
section
variable {prog : Program} {w : World} {A : Around} {E : Value → Shared → Prop} {s : Shared}
theorem sliceApplied_rev {sl : Addr} {vl vu vs : Value} {n : Nat} {Q : Int × Int × Nat → Shared → Prop} (hs : s.heap.IsSliceOf sl vl vu vs) (pl : IsPart vl none) (pu : IsPart vu none) (ps : IsPart vs (some (-1)))
    (h : Q ((n : Int) - 1, -1, n) s) : wpAny (model prog w) A (Builtin.Slice.sliceApplied (.ref sl) (pure (n : Int))) Q E s := by
  obtain ⟨os, hos, hcs, hds⟩ := id hs
  unfold Builtin.Slice.sliceApplied Builtin.Slice.sliceFields
  refine wpAny_bind (wpAny_bind (wpAny_field hos hds (x := vl) rfl (wpAny_bind (wpAny_field hos hds (x := vu) rfl (wpAny_bind (wpAny_field hos hds (x := vs) rfl (wpAny_pure ?_)))))))
  refine wpAny_bind (HT.slicePart_ ps ?_)
  show wpAny _ _ (if ((-1 : Int) == 0) = true then _ else _) _ _ s
  rw [if_neg (by decide)]
  refine wpAny_bind (HT.slicePart_ pl (wpAny_bind (HT.slicePart_ pu (wpAny_bind (wpAny_pure ?_)))))
  show wpAny _ _ (match Builtin.Slice.sliceAdjust none none (-1) (n : Int) with | (lo, hi) => pure (lo, (-1 : Int), Builtin.Slice.slicePlaces lo hi (-1))) _ _ s
  rw [adjust_rev n]
  show wpAny _ _ (pure ((n : Int) - 1, (-1 : Int), Builtin.Slice.slicePlaces ((n : Int) - 1) (-1) (-1))) _ _ s
  rw [places_rev]
  exact wpAny_pure h
theorem getItem_tuple_rev {t sl : Addr} {items : Array Value} {vl vu vs : Value} {Q : Value → Shared → Prop} (ht : IsTup s.heap t items) (hs : s.heap.IsSliceOf sl vl vu vs) (pl : IsPart vl none) (pu : IsPart vu none) (ps : IsPart vs (some (-1)))
    (h : Q (.ref s.heap.objs.size) { s with heap := s.heap.push { cls := .type "tuple", data := .seq items.toList.reverse.toArray } })
    (hsz : items.size ≤ sizeLine) : wpAny (model prog w) A (getItem (.ref t) (.ref sl)) Q E s := by
  have htake : sizeOk (.seq items.toList.reverse.toArray) := by
    show items.toList.reverse.toArray.size ≤ sizeLine
    rw [List.size_toArray, List.length_reverse, Array.length_toList]
    exact hsz
  obtain ⟨os, hos, hcs, hds⟩ := id hs
  have hTs : s.TypeIs (.ref sl) "slice" := ⟨os, hos, hcs⟩
  unfold getItem
  try with_reducible refine wpAny_holding ?_
  first | refine wpAny_bind (wpAny_pure ?_) | skip
  refine wpAny_bind (wpAny_sequenceKey ht.typeIs (by decide) ?_)
  refine wpAny_bind (wpAny_callSpecial?_slot (name := Str.ofString "__getitem__") ht.typeIs PyProof.Rows.slot_tuple_getitem
    (wpAny_call_entry PyProof.Rows.slot_tuple_getitem ht.typeIs PyProof.Rows.entry_tuple_getitem ?_ (PyProof.Rows.args_tuple_getitem _ _)))
  show wpAny _ _ (Builtin.Tuple.tupleItemsOf (.ref t) >>= _) _ _ s
  refine wpAny_bind (PyProof.Rows.tupleItemsOf_ ht ?_)
  refine wpAny_bind (wpAny_typeOf hTs ?_)
  rw [if_pos (by decide)]
  refine wpAny_bind (sliceApplied_rev hs pl pu ps ?_)
  have hno : ¬ ((((items.size : Int) - 1) == 0 && (-1 : Int) == 1 && items.size == items.size) = true) := by
    intro q
    rw [Bool.and_eq_true, Bool.and_eq_true] at q
    have q2 : (-1 : Int) = 1 := eq_of_beq q.1.2
    omega
  show wpAny _ _ (if (((items.size : Int) - 1) == 0 && (-1 : Int) == 1 && items.size == items.size) = true then _ else _) _ _ s
  rw [if_neg hno, pick_rev]
  first
    | exact wpAny_bind (m := Builtin.Tuple.tupleExact _) (wpAny_newObj_type (wpAny_pure ⟨_, rfl, wpAny_pure h⟩) htake)
    | exact wpAny_bind (m := Builtin.Tuple.tupleExact _) (wpAny_newObj_type (wpAny_bind (wpAny_pure (wpAny_pure ⟨_, rfl, wpAny_pure h⟩))) htake)
    | exact wpAny_bind (wpAny_bind (m := Builtin.Tuple.tupleExact _) (wpAny_newObj_type (wpAny_pure (wpAny_pure ⟨_, rfl, wpAny_pure h⟩)) htake))
    | exact wpAny_bind (wpAny_bind (m := Builtin.Tuple.tupleExact _) (wpAny_newObj_type (wpAny_pure ⟨_, rfl, wpAny_pure h⟩) htake))
end
section
variable {X : Cx} {te : TE}
def tRevA (K : PySem.W.Frag) (te : TE) : TE := fun σ H Q => te σ H fun x H1 => (∃ a xs, x = .ref a ∧ SqL K H1 a xs ∧ ∀ p, H1 p = none → Q (.ref p) (upd H1 p (.lst xs.reverse))) ∨ (∃ a xs, x = .ref a ∧ SqT K H1 a xs ∧ ∀ p, H1 p = none → Q (.ref p) (upd H1 p (.tup xs.reverse)))
theorem pe_revA {e : Expr} {k : Nat} {p1 p2 p3 pos : Pos} (he : PE X e te) : PE X (.Subscript e (.Slice none none (some (.UnaryOp .USub (.Constant (.int 1) k p1) p2)) p3) pos) (tRevA X.K te) := by
  refine ⟨fun pins s σ H Q I h => ?_⟩
  refine Subscript_ (thn (he.run pins s σ H _ I h) fun v s1 ⟨x, H1, I1, r1, q1⟩ => ?_)
  have hst : PO X (some (.UnaryOp .USub (.Constant (.int 1) k p1) p2)) (tPart (tUn (rU fun i => .int (-i)) (tC (.int 1)))) := po_some (pe_un un_neg pe_int)
  refine wpAny_Slice (thn (po_none.run pins s1 σ H1 (fun o H2 => o = none ∧ H2 = H1) I1 ⟨rfl, rfl⟩) fun vl s2 ⟨l, H2, I2, pl, el, e2⟩ => ?_)
  subst el e2
  refine thn (po_none.run pins s2 σ H2 (fun o H3 => o = none ∧ H3 = H2) I2 ⟨rfl, rfl⟩) fun vu s3 ⟨u, H3, I3, pu, eu, e3⟩ => ?_
  subst eu e3
  refine thn (hst.run pins s3 σ H3 (fun o H4 => o = some (-1) ∧ H4 = H3) I3 ⟨1, rfl, -1, rfl, rfl, rfl⟩) fun vs s4 ⟨o, H4, I4, ps, eo, e4⟩ => ?_
  subst eo e4
  have I5 : Inv X pins σ H4 { s4 with heap := s4.heap.push { cls := .type "slice", data := .fields #[vl, vu, vs] } } := I4.kept (t' := s4.toks) fun b ob q => Heap.get?_push_of_some _ q
  rcases q1 with ⟨a, xs, ex, hx, q⟩ | ⟨a, xs, ex, hx, q⟩
  · subst ex
    cases r1
    obtain ⟨its, r, ht, hz⟩ := I5.list hx
    have hlen := r.length
    show wpAny (model X.prog X.w) X.A (subscriptTail e (.Slice none none (some (.UnaryOp .USub (.Constant (.int 1) k p1) p2)) p3) (.ref a) (.ref s4.heap.objs.size)) (EP X pins σ Q) X.xe { s4 with heap := s4.heap.push { cls := .type "slice", data := .fields #[vl, vu, vs] } }
    refine tail_any (ops := [.ref a, .ref s4.heap.objs.size]) ht.isList.typeIs (PySem.slot_list_getitem.lookup) ?_ (by with_unfolding_all rfl)
    refine wpAny_getItem_list_slice ht.isList (Heap.IsSliceOf.new _ vl vu vs) pl pu ps (by decide) ?_ (by rw [List.size_toArray]; omega)
    rw [PySem.W.krv_pick]
    refine ⟨.ref _, _, I5.laid (t' := s4.toks) (o := .lst xs.reverse) (fun b ob q => Heap.get?_push_of_some _ q) (Nat.le_refl _) ?_, rfl, q _ (I5.hok.fresh (Nat.le_refl _))⟩
    exact ⟨by rw [List.length_reverse]; exact hz, _, 0, r.reverse, Heap.get?_push_size _ rfl⟩
  · subst ex
    cases r1
    obtain ⟨its, r, ht, hz⟩ := I5.tuple hx
    have hlen := r.length
    show wpAny (model X.prog X.w) X.A (subscriptTail e (.Slice none none (some (.UnaryOp .USub (.Constant (.int 1) k p1) p2)) p3) (.ref a) (.ref s4.heap.objs.size)) (EP X pins σ Q) X.xe { s4 with heap := s4.heap.push { cls := .type "slice", data := .fields #[vl, vu, vs] } }
    refine tail_any (ops := [.ref a, .ref s4.heap.objs.size]) ht.typeIs (PyProof.Rows.slot_tuple_getitem.lookup) ?_ (by with_unfolding_all rfl)
    refine getItem_tuple_rev ht (Heap.IsSliceOf.new _ vl vu vs) pl pu ps ?_ (by rw [List.size_toArray]; omega)
    refine ⟨.ref _, _, I5.laid (t' := s4.toks) (o := .tup xs.reverse) (fun b ob q => Heap.get?_push_of_some _ q) (Nat.le_refl _) ?_, rfl, q _ (I5.hok.fresh (Nat.le_refl _))⟩
    exact ⟨by rw [List.length_reverse]; exact hz, _, r.reverse, IsTup.new _ _⟩
end
theorem Reps.reverse {G : Gx} {F : Hp} : ∀ {vs : List V} {ds : List D}, Reps G F vs ds → Reps G F vs.reverse ds.reverse
  | _, _, .nil => .nil
  | _, _, .cons h r => by
    rw [List.reverse_cons, List.reverse_cons]
    exact (Reps.reverse r).append (.one h)
def gRev : G1
  | .lst xs => some (.lst xs.reverse)
  | .tup xs => some (.tup xs.reverse)
  | _ => none
section
variable {c : Ctx} {X : Cx}
theorem ve_rev {a : Expr} {sa : SE} {k : Nat} {p1 p2 p3 pos : Pos} (ha : PE X a (vt c sa)) : PE X (.Subscript a (.Slice none none (some (.UnaryOp .USub (.Constant (.int 1) k p1) p2)) p3) pos) (vt c (s1 gRev sa)) := by
  refine pe_of (pe_revA ha) fun σ H Q ⟨F, ρ, I, d, ρ', e, q⟩ => ?_
  unfold s1 at e
  split at e
  · rename_i x ρ1 e1
    split at e
    · rename_i d' e4
      cases e
      refine ⟨F, ρ, I, x, ρ', e1, fun v H1 F1 x1 I1 r1 => ?_⟩
      have q' : Aft c.G F1 H1 d Q := fun v H' F' g r => q v H' F' (x1.trans g.f) (I1.grow g) r
      unfold gRev at e4
      split at e4
      · cases e4
        cases r1 with
        | lst h1 rs => exact .inl ⟨_, _, rfl, .of (I1.fh _ _ h1), fun p hp => q'.newL I1.fh rs.reverse p hp⟩
      · cases e4
        cases r1 with
        | tup h1 rs => exact .inr ⟨_, _, rfl, .of (I1.fh _ _ h1), fun p hp => q'.newT I1.fh rs.reverse p hp⟩
      · cases e4
    · cases e
  · cases e
end
end VS

set_option Elab.async false
set_option linter.all false
set_option maxRecDepth 100000
set_option maxHeartbeats 4000000
namespace VS
open PySem PySem.Spec PyProof.Rows L2
/-! a comprehension within a comprehension's block -/
theorem blkOk_in {X : Cx} {N : List Str} {sc scope : Scope} {own : List (Str × Nat)} (h1 : X.N = N) (h2 : X.env.scope = sc) (h : blkC N sc scope own = true) : BlkOk X.N X.env.scope scope own := by
  rw [h1, h2]
  exact blkOk_by h
end VS

set_option Elab.async false
set_option linter.all false
set_option maxRecDepth 100000
set_option maxHeartbeats 4000000
namespace VS
open PySem PySem.Spec PyProof.Rows L2
/-! repr of data; the defs that ask it: no repr is under way around them -/
structure FnG (P : Program) (w : World) (K : PySem.W.Frag) (mg : Str → Option Value) (base : Heap) (k : Nat) (f : Addr) (fd : FuncData) (ps : List Str) (sp : Sp) : Prop where
  len : ∀ vs H Q E, sp vs H Q E → vs.length = ps.length
  run : ∀ (A : Around) (outer : List Env) (s : Shared) (H : Hp) (args : Args) (us : List Value) (vs : List V) (Q : VK) (E : XK), A.guards = some [] → Room k A → Env0 P w K mg base A outer s H → BindsTo s fd args (ps.zip us) → Vals vs us → sp vs H Q E →
    codeAny (model P w) A (.call (.ref f) args) (CR CX0 outer P w H s Q E) s
theorem FnG.imp {P : Program} {w : World} {K : PySem.W.Frag} {mg : Str → Option Value} {base : Heap} {k : Nat} {f : Addr} {fd : FuncData} {ps : List Str} {sp sp' : Sp} (F : FnG P w K mg base k f fd ps sp) (h : ∀ vs H Q E, sp' vs H Q E → sp vs H Q E) : FnG P w K mg base k f fd ps sp' where
  len vs H Q E q := F.len vs H Q E (h _ _ _ _ q)
  run A outer s H args us vs Q E g r e b v q := F.run A outer s H args us vs Q E g r e b v (h _ _ _ _ q)
theorem fnG_of {P : Program} {w : World} {G : Gx} {mg : Str → Option Value} {base : Heap} {x qual : Str} {st : Stmt} {f : Addr} {fd : FuncData} {N ps : List Str} {k : Nat} {sp : Sp} (F : Fun G.K x qual st f fd) (S : FnScope N ps (defScope st)) (len : ∀ vs H Q E, sp vs H Q E → vs.length = ps.length)
    (hb : ∀ (cdv : Value) (A : Around) (outer : List Env) (s : Shared) (H : Hp) (vs : List V) (Q : VK) (E : XK), (A.deeper (envOfC qual (defScope st) s.heap.objs.size f cdv)).guards = some [] → Room k (A.deeper (envOfC qual (defScope st) s.heap.objs.size f cdv)) → sp vs H Q E →
      ∃ t, PSs (cxOf CX0 P w G.K mg base N qual (defScope st) f cdv A outer s H E).nox (defBody st) t ∧ t { nx := fun _ H' => Q .non H', rt := Q } (L2.start N vs) H) : FnG P w G.K mg base (k + 1) f fd ps sp := by
  obtain ⟨oc, od, kV, doc, pm, an, cdv, ct, osl, rfl, lk, hcd⟩ := F.ex
  refine ⟨len, fun A outer s H args us vs Q E hg hr e0 bd r hsp => ?_⟩
  have hl := len _ _ _ _ hsp
  have up : ∀ b o, base.get? b = some o → s.heap.get? b = some o := fun b o e => (e0.bs b o e).1
  have KX : G.K.In s.heap := e0.mod.kin.keeps up
  have kinds : ∀ y ∈ ps.zip us, (defScope st).names.lookup y.1 = some .local ∨ ((defScope st).names.lookup y.1 = some .cell ∧ ((cellsFrom (s.heap.objs.size + 1) (defScope st).names []).lookup y.1).isSome = true) := fun y hy =>
    (S.par y.1 (List.of_mem_zip hy).1).elim .inl fun q => .inr ⟨q, PySem.W.cellsFrom_some _ _ _ (.inl q)⟩
  refine codeAny_call_function hr.depth (KX _ _ lk) rfl S.co S.gen rfl (PySem.W.codeRec_of KX hcd) (bd _ _ _ _ (wpAny_newFunctionEnv_cells S.kind kinds fun env he s1 x => ?_))
  subst he
  refine ⟨(e0.mod.nolimit.keeps up).keeps x.toInCall.keep, codeAny_func ?_⟩
  obtain ⟨t, ht, hq⟩ := hb cdv A outer s H vs Q E hg (hr.deeper _) hsp
  have I : Inv (cxOf CX0 P w G.K mg base N qual (defScope st) f cdv A outer s H E) [] (L2.start N vs) H s1 := inv_start S hr.hd e0 hl r x
  refine wpAny_mono (ht.nox.run [] s1 (L2.start N vs) H _ I hq) (fun fl s' hs => ?_) fun e s' hs => hs
  have fin : ∀ {σ' : L2.St} {H' : Hp} {v : V} {u : Value}, Inv (cxOf CX0 P w G.K mg base N qual (defScope st) f cdv A outer s H E) [] σ' H' s' → RelV v u → Q v H' → CE outer P w H s Q u s' := fun {σ' H' v u} J rv q => ⟨v, H', J.os, J.bare, J.base, J.hok, rv, q⟩
  match fl, hs with
  | .ret u, hs =>
    obtain ⟨v, σ', H', J, rv, q⟩ := hs
    exact fin J rv q
  | .next, hs =>
    obtain ⟨σ', H', J, q⟩ := hs
    exact fin (v := V.non) (u := Value.none) J rfl q
  | .brk, hs => exact hs.elim fun _ z => z.elim fun _ z => z.2.elim
  | .cont, hs => exact hs.elim fun _ z => z.elim fun _ z => z.2.elim
theorem fn_okG {P : Program} {w : World} {G : Gx} {mg : Str → Option Value} {base : Heap} {x qual : Str} {st : Stmt} {f : Addr} {fd : FuncData} {N ps : List Str} {k : Nat} {s : SS} (F : Fun G.K x qual st f fd) (S : FnScope N ps (defScope st))
    (hb : ∀ (c : Ctx) (cdv : Value) (A : Around) (outer : List Env) (sh : Shared) (H : Hp) (E : XK), c.G = G → (A.deeper (envOfC qual (defScope st) sh.heap.objs.size f cdv)).guards = some [] → Room k (A.deeper (envOfC qual (defScope st) sh.heap.objs.size f cdv)) →
      PSs (cxOf CX0 P w G.K mg base N qual (defScope st) f cdv A outer sh H E).nox (defBody st) (vs c s)) :
    FnG P w G.K mg base (k + 1) f fd ps (spV G ps.length (mir N.length s)) := by
  refine fnG_of F S (fun us H Q E h => ?_) (fun cdv A outer sh H us Q E hg hr h => ?_)
  · obtain ⟨F0, B, sl, _, a, hn, _⟩ := h
    rw [a.length, hn]
  · obtain ⟨F0, B, sl, e, a, hn, d, o, hm, q⟩ := h
    refine ⟨vs ⟨G, F0, H, B⟩ s, hb _ cdv A outer sh H E rfl hg hr, ?_⟩
    obtain ⟨fl, ρ, h1, h2, h3⟩ := mir_inv hm
    have hl := a.length
    refine ⟨F0, _, (by have := ok_start e a (N.length - sl.length); unfold L2.start; rw [hl]; exact this), fl, ρ, h1, ?_⟩
    have fin : ∀ σ H' F', Ok ⟨G, F0, H, B⟩ F' H' σ ρ → Keep B F0 H F' H' ∧ Out G F' H' B sl o := fun σ H' F' I => ok_end e a I h2
    rcases h3 with rfl | ⟨rfl, rfl⟩
    · exact fun v σ H' F' x I r => q v H' F' (fin σ H' F' I).1 (fin σ H' F' I).2 r
    · exact fun σ H' F' x I => q .non H' F' (fin σ H' F' I).1 (fin σ H' F' I).2 .non
structure CalG (P : Program) (w : World) (G : Gx) (mg : Str → Option Value) (base : Heap) (x : Str) (k n : Nat) (m : Mir) : Prop where
  ex : ∃ (f : Addr) (fd : FuncData) (ps : List Str), mg x = some (.ref f) ∧ PySem.W.keepIn G.K (.ref f) = true ∧ Binds G.K fd ps [] ∧ FnG P w G.K mg base k f fd ps (spV G n m)
section
variable {X : Cx} {k : Nat} {f : Addr} {fd : FuncData} {ps : List Str} {sp : Sp} {x : Str} {p pos : Pos} {e : Expr} {es : List Expr} {t : TA}
theorem run_fnG {pins : List (Addr × Obj)} {σ : L2.St} {H : Hp} {s : Shared} {Q : VK} {us : List Value} {vs : List V} (F : FnG X.prog X.w X.K X.mg X.base k f fd ps sp) (hg : X.A.guards = some []) (hr : Room k X.A) (hb : Binds X.K fd ps []) (I : Inv X pins σ H s) (r : Vals vs us) (h : sp vs H Q E0) :
    wpAny (model X.prog X.w) X.A (call (.ref f) us) (EP X pins σ Q) X.xe s := by
  have hl : (us ++ []).length = ps.length := by rw [List.append_nil, ← r.length]; exact F.len _ _ _ _ h
  have b := hb s us I.kIn hl
  rw [List.append_nil] at b
  refine wpAny_call (codeAny_mono (F.run X.A X.stack s H ⟨us, []⟩ us vs Q E0 hg hr I.env0 b r h) fun r s' hq => ?_)
  match r, hq with
  | .error e, hq => exact hq.elim
  | .ok (.ret u), hq => exact I.after hq
  | .ok .next, hq => exact False.elim hq
  | .ok .brk, hq => exact False.elim hq
  | .ok .cont, hq => exact False.elim hq
theorem pe_callG (F : FnG X.prog X.w X.K X.mg X.base k f fd ps sp) (hgd : X.A.guards = some []) (hr : Room k X.A) (hg : Gl X x) (hm : X.mg x = some (.ref f)) (hk : PySem.W.keepIn X.K (.ref f) = true) (hb : Binds X.K fd ps [])
    (ha : PA X (e :: es) t) (hdb : (x == ("__debug__" : Str)) = false := by decide) (he : starEach (e :: es) X.env = (false, eval e X.env) :: starEach es X.env := by rfl) (hpl : (backTo pos (starEach es X.env)).any (·.1) = false := by rfl) :
    PE X (.Call (.Name x p) (e :: es) [] pos) (tCall sp [] E0 t) := by
  refine ⟨fun pins s σ H Q I h => ?_⟩
  refine wpAny_Call_Name_kw (ld_glob I hg hm ?_ hdb)
  refine PySem.W.callWith_K (h₀ := X.base) I.ok.mod.kin hk (thn (ha.run pos pins s σ H _ I h) fun us s1 ⟨vs, H1, I1, r, q⟩ => ⟨I1.kIn, ?_⟩) he hpl
  refine run_fnG F hgd hr hb I1 r ?_
  have q' : sp (vs ++ []) H1 Q E0 := q
  rw [List.append_nil] at q'
  exact q'
end
section
variable {c : Ctx} {X : Cx} {x : Str} {p pos : Pos} {e : Expr} {es : List Expr} {k n : Nat} {m : Mir}
theorem ve_callG {sa : SA} (C : CalG X.prog X.w c.G X.mg X.base x k n m) (hK : X.K = c.G.K) (hgd : X.A.guards = some []) (hr : Room k X.A) (ha : PA X (e :: es) (va c sa)) (hg : Gl X x := by rfl) (hdb : (x == ("__debug__" : Str)) = false := by decide)
    (he : starEach (e :: es) X.env = (false, eval e X.env) :: starEach es X.env := by rfl) (hpl : (backTo pos (starEach es X.env)).any (·.1) = false := by rfl) : PE X (.Call (.Name x p) (e :: es) [] pos) (vt c (sCall n m sa)) := by
  obtain ⟨f, fd, ps, hm, hk, hb, hF⟩ := C.ex
  rw [← hK] at hk hb hF
  exact pe_of (pe_callG hF hgd hr hg hm hk hb ha hdb he hpl) call_w
theorem ve_callMG {sa : SA} {i : Nat} (C : CalG X.prog X.w c.G X.mg X.base x k n m) (hK : X.K = c.G.K) (hgd : X.A.guards = some []) (hr : Room k X.A) (h1 : PE X e (tVar i)) (ha : PA X es (va c sa)) (hg : Gl X x := by rfl) (hdb : (x == ("__debug__" : Str)) = false := by decide)
    (he : starEach (e :: es) X.env = (false, eval e X.env) :: starEach es X.env := by rfl) (hpl : (backTo pos (starEach es X.env)).any (·.1) = false := by rfl) : PE X (.Call (.Name x p) (e :: es) [] pos) (vt c (sCallM n m i sa)) := by
  obtain ⟨f, fd, ps, hm, hk, hb, hF⟩ := C.ex
  rw [← hK] at hk hb hF
  exact pe_of (pe_callG hF hgd hr hg hm hk hb (pa_cons h1 ha he) hdb he hpl) callM_w
/-! repr -/
def gRepr : GL
  | [d] => match toP d with
    | some x => if x.showable = true ∧ x.hasDict = false ∧ x.depth ≤ 50 ∧ x.shown.length ≤ LN then some (.str x.shown) else none
    | none => none
  | _ => none
theorem call_repr (hgd : X.A.guards = some []) (hu : X.A.units + 100 < cLine) : CallR X (.builtin "repr") (fun xs H Q => ∃ v d, xs = [v] ∧ Dp X.K H v d ∧ d.showable = true ∧ d.hasDict = false ∧ d.depth ≤ 50 ∧ d.shown.length ≤ sizeLine ∧ (∀ b, v ≠ .bl b) ∧ v ≠ .non ∧ (∀ y, v ≠ .str y) ∧ Q (.str d.shown) H) := by
  intro pins s σ H xs us Q I r h
  obtain ⟨v, d, rfl, hd, h1, h2, h3, h4, n1, n2, n3, q⟩ := h
  obtain ⟨u, rfl, rx⟩ := vals1 r
  obtain ⟨as, rd⟩ := Dp.reads I d v u hd rx
  cases v with
  | int i =>
    obtain ⟨t, rfl⟩ := rx
    cases hd
    have hz : i.natAbs.log2 < 1920 := of_decide_eq_true h1
    exact PySem.P.repr_of_int hz ⟨.str _, H, I.tok _, ⟨_, rfl⟩, q⟩
  | ref a =>
    cases rx
    exact repr_of_reads' (h₀ := s.heap) rd h1 (fun z => by rw [h2] at z; cases z) hgd (by omega) (fun b o e => e) (fun h' u tk k => ⟨.str d.shown, H, I.kept k, ⟨_, rfl⟩, q⟩) h4
  | bl b => exact absurd rfl (n1 b)
  | non => exact absurd rfl n2
  | str y => exact absurd rfl (n3 y)
  | _ => cases hd
end
end VS

set_option Elab.async false
set_option linter.all false
set_option maxRecDepth 100000
set_option maxHeartbeats 4000000
namespace VS
open PySem PySem.Spec PyProof.Rows L2
def okRepr : D → Bool
  | .int _ => true
  | .lst _ => true
  | .tup _ => true
  | _ => false
def gRep : GL
  | [d] => if okRepr d = true then gRepr [d] else none
  | _ => none
section
variable {c : Ctx} {X : Cx}
theorem ca_repr (hK : X.K = c.G.K) (hgd : X.A.guards = some []) (hu : X.A.units + 100 < cLine) : CaD c X (.builtin "repr") gRep := car_of (call_repr hgd hu) fun xs H Q ⟨F, ds, d, e, r, hg, q⟩ => by
  unfold gRep at hg
  split at hg
  · rename_i d0
    by_cases hk : okRepr d0 = true
    · rw [if_pos hk] at hg
      cases hx : toP d0 with
      | none =>
        simp only [gRepr, hx] at hg
        cases hg
      | some x =>
        simp only [gRepr, hx] at hg
        by_cases hc : x.showable = true ∧ x.hasDict = false ∧ x.depth ≤ 50 ∧ x.shown.length ≤ LN
        · rw [if_pos hc] at hg
          obtain ⟨h1, h2, h3, h4⟩ := hc
          cases hg
          cases r with
          | cons r1 r2 =>
            cases r2
            have dp := Rep.dp (K := X.K) e r1 hx
            refine ⟨_, x, rfl, dp, h1, h2, h3, ln_fit h4, ?_, ?_, ?_, q.here e (.str _)⟩
            · intro b z; subst z; cases r1; cases hk
            · intro z; subst z; cases r1; cases hk
            · intro y z; subst z; cases r1; cases hk
        · rw [if_neg hc] at hg
          cases hg
    · rw [if_neg hk] at hg
      cases hg
  · cases hg
end
theorem law_okG {P : Program} {w : World} {G : Gx} {mg : Str → Option Value} {base : Heap} {k : Nat} {f : Addr} {fd : FuncData} {x : Str} {m : Mir} (F : FnG P w G.K mg base k f fd [x] (spV G 1 m))
    (h : ∀ ns : List Int, ns.length ≤ 63 → ∃ o, m [.val (.scr (ns.map .int))] = some (.bl true, o)) : FnG P w G.K mg base k f fd [x] (spLaw G.K) := by
  refine F.imp fun vs H Q E ⟨a, ns, e, hs, hl, q⟩ => ?_
  subst e
  obtain ⟨o, ho⟩ := h ns hl
  exact ⟨H, [], _, Ext.rfl', .vals (ds := [.scr (ns.map .int)]) (.one (.scr hs (reps_ints ns))), rfl, _, o, ho, fun v H' F' _ _ r => by cases r; exact q H'⟩
/-- the law's call, from the top: no repr is under way there -/
theorem law_callG {P : Program} {w : World} {K : PySem.W.Frag} {mg mb : Str → Option Value} {k : Nat} {fa a : Addr} {fd : FuncData} {x : Str} {s₁ : Shared} {us : List Value} {ns : List Int}
    (KX : K.In s₁.heap) (hns : s₁.heap.Ns mainGlobals mg) (hb : s₁.heap.Ns builtinsNs mb) (hbb : ∀ x : Str, x ≠ "__name__" → mb x = bootBuiltins x) (hlim : s₁.heap.NoLimit) (hg : s₁.gens = #[])
    (ha : s₁.heap.get? a = some { cls := .type "list", data := .seq us.toArray }) (hi : IntsAre us ns) (hl : ns.length ≤ 63) (hr : Room k callerA)
    (F : ∀ base : Heap, K.In base → base.Ns mainGlobals mg → FnG P w K mg base k fa fd [x] (spLaw K)) (hbind : ∀ (s : Shared) (u : Value), BindsTo s fd ⟨[u], []⟩ [(x, u)]) :
    codeAny (model P w) callerA (.call (.ref fa) ⟨[.ref a], []⟩) (fun r s' => r = .ok (.ret (.bool true)) ∧ OldK s₁.heap s'.heap ∧ s'.os = s₁.os ∧ AllBare s'.gens) s₁ := by
  have rv := vals_ints hi
  have lenV := hi.length
  have main : ∀ H : Hp, Only H → SqL K H a (ns.map V.int) → HOk P w H s₁.heap → (∀ b, H b ≠ none → b = a) → (H a ≠ none → K.lookup a = none) →
      codeAny (model P w) callerA (.call (.ref fa) ⟨[.ref a], []⟩) (fun r s' => r = .ok (.ret (.bool true)) ∧ OldK s₁.heap s'.heap ∧ s'.os = s₁.os ∧ AllBare s'.gens) s₁ := fun H hO hS hok hA hK => by
    have hid : ∀ {b : Addr} {o : Obj}, s₁.heap.get? b = some o → H b = none → (hidT s₁.heap H).get? b = some o := fun e n => hidT_get e n
    have free : ∀ {b : Addr} {o : Obj}, s₁.heap.get? b = some o → o ≠ { cls := .type "list", data := .seq us.toArray } → H b = none := fun {b o} e ne => by
      by_cases z : b = a
      · subst z
        rw [ha] at e
        exact absurd (Option.some.inj e).symm ne
      · exact Classical.byContradiction fun q => z (hA b q)
    have dict : ∀ {b : Addr} {o : Obj} {es : Array DictEntry} {ep : Nat}, s₁.heap.get? b = some o → o.data = .dict es ep → H b = none := fun {b o es ep} e d => free e fun z => by
      subst z
      have d' : Data.seq us.toArray _ = Data.dict es ep := d
      cases d'
    have nsK : ∀ {b : Addr} {m : Str → Option Value}, s₁.heap.Ns b m → (hidT s₁.heap H).Ns b m := fun {b m} ⟨o, es, ep, e, d, r⟩ => ⟨o, es, ep, hid e (dict e d), d, r⟩
    have kb : K.In (hidT s₁.heap H) := fun b o e => hid (KX b o e) (Classical.byContradiction fun q => by
      have z := hA b q
      subst z
      rw [hK q] at e
      cases e)
    have md : Mod K mg (hidT s₁.heap H) := ⟨kb, nsK hns, ⟨mb, nsK hb, hbb⟩, let ⟨mc, h1, h2⟩ := hlim; ⟨mc, nsK h1, h2⟩⟩
    have e0 : Env0 P w K mg (hidT s₁.heap H) callerA [] s₁ H := ⟨rfl, md, fun b o e => of_hidT e, Nat.le_of_eq (hidT_size _ _), trivial, fun b hb => absurd (show b ∈ ([] : List Addr) from hb) (by simp), hok, .of_eq hg⟩
    refine codeAny_mono ((F _ kb (nsK hns)).run callerA [] s₁ H ⟨[.ref a], []⟩ [.ref a] [.ref a] (fun v _ => v = .bl true) (fun _ _ _ => False) rfl hr e0 (hbind s₁ (.ref a)) (.cons rfl .nil) ⟨a, ns, rfl, hS, hl, fun _ => rfl⟩) fun r s' h => ?_
    match r, h with
    | .error e, h => exact h.elim
    | .ok .next, h => exact False.elim h
    | .ok .brk, h => exact False.elim h
    | .ok .cont, h => exact False.elim h
    | .ok (.ret u), h =>
      obtain ⟨v, H', os, bare, un, hok', r', q⟩ := h
      have q' : v = .bl true := q
      subst q'
      obtain rfl : u = Value.bool true := r'
      refine ⟨rfl, OldK.of_keep fun b o e => ?_, os, bare⟩
      by_cases q : H b = none
      · exact un.keep b o e q (by intro z; exact absurd (show b ∈ ([] : List Addr) from z) (by simp)) (by simp)
      · rcases hO b with z | ⟨ob, xs, z⟩
        · exact absurd z q
        · have z2 := un.frzs b ob _ z
          obtain ⟨e1, _⟩ := hok b _ z
          obtain ⟨e2, _⟩ := hok' b _ z2
          rw [e] at e1
          cases e1
          exact e2
  have ls : ns.length ≤ sizeLine := Nat.le_trans hl (by decide)
  by_cases hk : K.lookup a = none
  · refine main (fun b => if b = a then some (.frz { cls := .type "list", data := .seq us.toArray } (.lst (ns.map V.int))) else none) (fun b => ?_) (.inl (.inr ⟨{ cls := .type "list", data := .seq us.toArray }, if_pos rfl⟩)) (fun b u z => ?_) (fun b z => ?_) fun _ => hk
    · by_cases hb : b = a
      · exact .inr ⟨_, _, if_pos hb⟩
      · exact .inl (if_neg hb)
    · by_cases hb : b = a
      · subst hb
        have z' := (if_pos rfl).symm.trans z
        cases z'
        exact ⟨ha, by rw [List.length_map]; exact ls, us, _, rv, ha⟩
      · have z' := (if_neg hb).symm.trans z
        cases z'
    · exact Classical.byContradiction fun hb => z (if_neg hb)
  · obtain ⟨o, ho⟩ := Option.ne_none_iff_exists'.mp hk
    have e := KX a o ho
    rw [ha] at e
    cases e
    exact main (fun _ => none) (fun _ => .inl rfl) (.inr ⟨_, us.toArray, _, ho, rfl, rfl, rfl, by rw [List.size_toArray, lenV]; exact ls, by simpa using rv⟩) (fun b u z => by have z' : (none : Option HO) = some u := z; cases z') (fun b z => absurd rfl z) fun z => absurd rfl z
theorem walk_ofG {l : PySem.W.OpenLaw} {k : Nat} {q : Program} {loose : List Str} {XP : (Str → Option Value) → Heap → Prop} {YP : World → Heap → Prop} {d : DefRec} {K : Params → PySem.W.Frag} {x : Str}
    (hn : l.most = some 63) (hdf : d.params.defaults = []) (hr : Room k callerA) (hY : ∀ (w : World) (h : Heap), YP w h → (K w.params).In h)
    (F : ∀ (w : World) (mg : Str → Option Value) (fa : Addr) (h : Heap), (K w.params).In h → h.Ns mainGlobals mg → mg d.name = some (.ref fa) →
      ∃ fd : FuncData, (∀ (s : Shared) (u : Value), BindsTo s fd ⟨[u], []⟩ [(x, u)]) ∧ ∀ base : Heap, (K w.params).In base → base.Ns mainGlobals mg → FnG l.prog w (K w.params) mg base k fa fd [x] (spLaw (K w.params))) :
    PySem.W.WalkO q loose XP YP l.row.toRowW d [] (fun f vs => PySem.call f vs) := by
  refine Att.attach_call hn hdf fun w s₀ s₁ mg mb fa o pm cd doc a us ns G Y ho hd hcd hmg hobj hints hlen hg => ?_
  have KX := hY w _ Y
  obtain ⟨fd, hb, hF⟩ := F w mg fa _ KX G.T.g hmg
  exact law_callG KX G.T.g G.T.b G.T.builtins G.T.nolimit hg hobj hints hlen hr hF hb
theorem bt_repr : bootBuiltins "repr" = some (.builtin "repr") := by decide +kernel
theorem hu100 {A : Around} {k : Nat} (hr : Room k A) : A.units + 100 < cLine := by have := hr.un; omega
end VS

set_option Elab.async false
set_option linter.all false
set_option maxRecDepth 100000
set_option maxHeartbeats 4000000
namespace VS
open PySem PySem.Spec PyProof.Rows L2
/-! e not in name, the name a list of one's own that is changed later -/
def sNotInM (i : Nat) (a : SE) : SE := fun ρ => match a ρ with
  | some (x, ρ1) => match conM ρ1 i with
    | some xs => match inD x xs with
      | some r => some (.bl (!r), ρ1)
      | none => none
    | none => none
  | none => none
section
variable {c : Ctx} {X : Cx}
theorem notInM_w {i : Nat} {sa : SE} (σ : L2.St) (H : Hp) (Q : VK) (h : vt c (sNotInM i sa) σ H Q) : tOp (rIn X.K true) (vt c sa) (tVar i) σ H Q := by
  obtain ⟨F, ρ, I, d, ρ', e, q⟩ := h
  unfold sNotInM at e
  split at e
  · rename_i x ρ1 e1
    split at e
    · rename_i xs e2
      split at e
      · rename_i r e3
        cases e
        refine ⟨F, ρ, I, x, ρ', e1, fun u H1 F1 x1 I1 r1 => ?_⟩
        obtain ⟨p, vs, h1, h2, h3, h4⟩ := I1.own e2
        refine ⟨_, h1, ?_⟩
        have eF : Ext F1 H1 := I1.fh
        have ext : Ext (upd F1 p (.lst vs)) H1 := fun b o hb => by
          by_cases z : b = p
          · subst z
            rw [upd_same] at hb
            cases hb
            exact h2
          · rw [upd_ne z] at hb
            exact eF b o hb
        have up : Ext F1 (upd F1 p (.lst vs)) := Ext.upd h3
        have rb : Rep c.G (upd F1 p (.lst vs)) (.ref p) (.lst xs) := .lst upd_same (h4.ext up)
        have hb : inB x (.lst xs) = some r := e3
        rcases in_of (K := X.K) ext (r1.ext up) rb hb with ⟨p', ys, k1, k2, k3, k4, k5⟩ | ⟨k, z, k1, k2, _⟩
        · cases k1
          exact ⟨p, ys, rfl, k2, k3, k4, by subst k5; exact q (.bl _) H1 F1 x1 I1 (.bl _)⟩
        · cases k2
      · cases e
    · cases e
  · cases e
theorem vt_notInM {a b : Expr} {i : Nat} {sa : SE} {pos} (ha : PE X a (vt c sa)) (hb : PE X b (tVar i)) (hm : behindInMarks .NotIn b = false := by first | exact nomark _ | rfl) : PT X (.Compare a [.NotIn] [b] pos) (vb c (sB (sNotInM i sa))) :=
  pt_of (pt_cmpR op_notIn_seq ha hb hm) fun _ _ _ h => vb_test (fun _ => notInM_w _ _ _) h
end
end VS

set_option Elab.async false
set_option linter.all false
set_option maxRecDepth 100000
set_option maxHeartbeats 8000000
namespace Toy
open PySem PySem.Spec PyProof.Rows L2 VS
def top (i : Nat) : Stmt := PySem.Challenge.pw_agedreads_k06_longest_waits.main.body.getD i (.Pass ⟨0, 0, 0, 0⟩)
/-- what the top has left, as the walks ask it -/
structure Txt (G : Gx) (mg : Str → Option Value) : Prop where
  n_abs : mg "abs" = none
  n_bool : mg "bool" = none
  n_enumerate : mg "enumerate" = none
  n_int : mg "int" = none
  n_isinstance : mg "isinstance" = none
  n_len : mg "len" = none
  n_list : mg "list" = none
  n_max : mg "max" = none
  n_range : mg "range" = none
  n_repr : mg "repr" = none
  n_set : mg "set" = none
  n_str : mg "str" = none
  n_tuple : mg "tuple" = none
  n_zip : mg "zip" = none
  g_LETTERS : ∃ u, mg "LETTERS" = some u ∧ RelV (.str "abcdefghijklmnopqrstuvwxyz") u
  c0 : ClsOk G.K (G.cls 0)
  g0 : mg "Step" = some (.ref (G.cls 0))
  nf0 : (G.fld 0).length = 4
  a0_label : NoAttr G.K (G.cls 0) "label"
  l0_label : look "label" (G.fld 0) = some 0
  a0_turn : NoAttr G.K (G.cls 0) "turn"
  l0_turn : look "turn" (G.fld 0) = some 1
  a0_lag : NoAttr G.K (G.cls 0) "lag"
  l0_lag : look "lag" (G.fld 0) = some 2
  a0_sources : NoAttr G.K (G.cls 0) "sources"
  l0_sources : look "sources" (G.fld 0) = some 3
  c1 : ClsOk G.K (G.cls 1)
  g1 : mg "Net" = some (.ref (G.cls 1))
  nf1 : (G.fld 1).length = 1
  a1_nodes : NoAttr G.K (G.cls 1) "nodes"
  l1_nodes : look "nodes" (G.fld 1) = some 0
abbrev N_law_purse : List Str := ["_law_script", "_law_at", "_law_cell"]
abbrev s_law_purse : Stmt := top 38
theorem sc_law_purse : FnScope N_law_purse ["_law_script", "_law_at"] (defScope s_law_purse) := ⟨rfl, rfl, rfl, by decide +kernel, rfl, by decide +kernel, by decide +kernel⟩
def b_law_purse : SS := (kS (kSet 2 (sK (.int 0)))
    (kS (kIf (sB (s2 gLt (sV 1) (sL gLen (aC (sV 0) aN))))
    (kSet 2 (s2 gIx (sV 0) (sV 1))) kN)
    (kRetL (aC (s2 gMod (sL gInt (aC (sL gMax (aC (s2 gSub (sV 2) (s2 gPow (sK (.int 10)) (sK (.int 18)))) (aC (sK (.int 0)) aN))) aN)) (s2 gPow (s2 gPow (sK (.int 10)) (sK (.int 40))) (sK (.int 10)))) (aC (s2 gMod (sL gInt (aC (sV 2) aN)) (sK (.int 2147483629))) (aC (sK (.int 0)) aN))))))
def m_law_purse : MirM := mirM 3 b_law_purse
abbrev N_law_draw : List Str := ["_law_purse_here", "_law_many", "_law_drawn", "_law_turn", "_law_number"]
abbrev s_law_draw : Stmt := top 39
theorem sc_law_draw : FnScope N_law_draw ["_law_purse_here", "_law_many"] (defScope s_law_draw) := ⟨rfl, rfl, rfl, by decide +kernel, rfl, by decide +kernel, by decide +kernel⟩
def b_law_draw : SS := (kS (kIf (sB (s2 gGt (sIxM 0 (sK (.int 0))) (sK (.int 0))))
    (kS (kSet 2 (s2 gMod (sL gInt (aC (sIxM 0 (sK (.int 0))) aN)) (sV 1)))
    (kS (kPut 0 (sK (.int 0)) (s2 gFdiv (sIxM 0 (sK (.int 0))) (sV 1)))
    (kRet (sV 2)))) kN)
    (kS (kSet 3 (s2 gAdd (sIxM 0 (sK (.int 2))) (sK (.int 1))))
    (kS (kPut 0 (sK (.int 2)) (sV 3))
    (kS (kSet 4 (s2 gMod (sL gInt (aC (s2 gMul (s2 gAdd (sIxM 0 (sK (.int 1))) (s2 gMul (sK (.int 104729)) (sV 3))) (s2 gAdd (s2 gMul (sV 3) (sV 3)) (sK (.int 7919)))) aN)) (sK (.int 2147483629))))
    (kS (kSet 4 (s2 gMod (sL gInt (aC (s2 gAdd (s2 gMul (sV 4) (sV 4)) (sV 3)) aN)) (sK (.int 2147483587))))
    (kRet (s2 gMod (s2 gFdiv (s2 gMod (sL gInt (aC (s2 gMul (sV 4) (sK (.int 48271))) aN)) (sK (.int 2147483647))) (sK (.int 64))) (sV 1))))))))
def m_law_draw : Mir := mir 5 b_law_draw
abbrev N_law_pick : List Str := ["_law_purse_here", "_law_items"]
abbrev s_law_pick : Stmt := top 40
theorem sc_law_pick : FnScope N_law_pick ["_law_purse_here", "_law_items"] (defScope s_law_pick) := ⟨rfl, rfl, rfl, by decide +kernel, rfl, by decide +kernel, by decide +kernel⟩
def b_law_pick : SS := (kRet (s2 gIx (sV 1) (sCallM 2 m_law_draw 0 (aC (sL gLen (aC (sV 1) aN)) aN))))
def m_law_pick : Mir := mir 2 b_law_pick
abbrev N_law_periods : List Str := ["_law_purse_here", "_law_some", "_law_found", "_law_cut"]
abbrev s_law_periods : Stmt := top 41
theorem sc_law_periods : FnScope N_law_periods ["_law_purse_here"] (defScope s_law_periods) := ⟨rfl, rfl, rfl, by decide +kernel, rfl, by decide +kernel, by decide +kernel⟩
def b_law_periods : SS := (kS (kSet 1 (sL gLst (aC (sL gLst (aC (sK (.int 4)) (aC (sK (.int 6)) aN))) (aC (sL gLst (aC (sK (.int 1)) (aC (sK (.int 5)) aN))) (aC (sL gLst (aC (sK (.int 6)) (aC (sK (.int 4)) aN))) (aC (sL gLst (aC (sK (.int 10)) (aC (sK (.int 4)) aN))) (aC (sL gLst (aC (sK (.int 7)) (aC (sK (.int 3)) aN))) (aC (sL gLst (aC (sK (.int 12)) (aC (sK (.int 12)) aN))) (aC (sL gLst (aC (sK (.int 9)) (aC (sK (.int 6)) aN))) (aC (sL gLst (aC (sK (.int 20)) (aC (sK (.int 50)) aN))) (aC (sL gLst (aC (sK (.int 60)) (aC (sK (.int 45)) aN))) (aC (sL gLst (aC (sK (.int 2)) (aC (sK (.int 3)) aN))) (aC (sL gLst (aC (sK (.int 8)) (aC (sK (.int 8)) aN))) (aC (sL gLst (aC (sK (.int 7)) aN)) (aC (sL gLst (aC (sK (.int 1)) aN)) aN)))))))))))))))
    (kS (kSet 1 (s2 gAdd (sV 1) (sL gLst (aC (sL gLst (aC (sK (.int 4)) (aC (sK (.int 6)) (aC (sK (.int 10)) aN)))) (aC (sL gLst (aC (sK (.int 2)) (aC (sK (.int 3)) (aC (sK (.int 4)) aN)))) (aC (sL gLst (aC (sK (.int 6)) (aC (sK (.int 6)) (aC (sK (.int 4)) aN)))) (aC (sL gLst (aC (sK (.int 5)) (aC (sK (.int 3)) (aC (sK (.int 2)) aN)))) (aC (sL gLst (aC (sK (.int 8)) (aC (sK (.int 12)) (aC (sK (.int 6)) aN)))) (aC (sL gLst (aC (sK (.int 1)) (aC (sK (.int 1)) (aC (sK (.int 1)) aN)))) (aC (sL gLst (aC (sK (.int 10)) (aC (sK (.int 5)) (aC (sK (.int 20)) aN)))) (aC (sL gLst (aC (sK (.int 3)) (aC (sK (.int 3)) (aC (sK (.int 3)) aN)))) aN)))))))))))
    (kS (kSet 1 (s2 gAdd (sV 1) (sL gLst (aC (sL gLst (aC (sK (.int 6)) (aC (sK (.int 10)) (aC (sK (.int 15)) aN)))) (aC (sL gLst (aC (sK (.int 4)) (aC (sK (.int 6)) (aC (sK (.int 10)) aN)))) (aC (sL gLst (aC (sK (.int 2)) (aC (sK (.int 4)) (aC (sK (.int 8)) aN)))) (aC (sL gLst (aC (sK (.int 6)) (aC (sK (.int 9)) (aC (sK (.int 4)) aN)))) (aC (sL gLst (aC (sK (.int 2)) (aC (sK (.int 3)) (aC (sK (.int 4)) (aC (sK (.int 6)) aN))))) (aC (sL gLst (aC (sK (.int 1)) (aC (sK (.int 2)) (aC (sK (.int 3)) (aC (sK (.int 4)) aN))))) (aC (sL gLst (aC (sK (.int 2)) (aC (sK (.int 2)) (aC (sK (.int 2)) (aC (sK (.int 2)) aN))))) aN))))))))))
    (kS (kSet 1 (s2 gAdd (sV 1) (sL gLst (aC (sL gLst (aC (sK (.int 3)) (aC (sK (.int 4)) (aC (sK (.int 2)) (aC (sK (.int 2)) aN))))) (aC (sL gLst (aC (sK (.int 4)) (aC (sK (.int 4)) (aC (sK (.int 2)) (aC (sK (.int 8)) aN))))) aN)))))
    (kS (kSet 2 (sL gList (aC (sCallM 2 m_law_pick 0 (aC (sV 1) aN)) aN)))
    (kS (kSet 3 (sCallM 2 m_law_draw 0 (aC (sL gLen (aC (sV 2) aN)) aN)))
    (kRet (s2 gAdd (sSl (sV 2) (oS (sV 3)) oN) (sSl (sV 2) oN (oS (sV 3)))))))))))
def m_law_periods : Mir := mir 4 b_law_periods
abbrev N_law_names : List Str := ["_law_purse_here", "_law_many", "_law_first", "_law_word", "_law_letters", "_law_at"]
abbrev s_law_names : Stmt := top 42
theorem sc_law_names : FnScope N_law_names ["_law_purse_here", "_law_many"] (defScope s_law_names) := ⟨rfl, rfl, rfl, by decide +kernel, rfl, by decide +kernel, by decide +kernel⟩
def b_law_names : SS := (kS (kTup [2, 3] (sL gTup (aC (sCallM 2 m_law_draw 0 (aC (sK (.int 26)) aN)) (aC (sCallM 2 m_law_pick 0 (aC (sL gLst (aC (sK (.str "")) (aC (sK (.str "a")) (aC (sK (.str "zz")) (aC (sK (.str "step")) (aC (sK (.str "runner")) (aC (sK (.str "qqqqqqq")) aN))))))) aN)) aN))))
    (kS (kSet 4 (sK (.str "abcdefghijklmnopqrstuvwxyz")))
    (kRet (sComp (iR (aC (sV 1) aN)) (.nm 5) bYes (s2 gAdd (sV 3) (s2 gIx (sV 4) (s2 gSub (s2 gAdd (sV 2) (s2 gMul (sK (.int 3)) (sV 5))) (s2 gMul (s2 gFdiv (s2 gAdd (sV 2) (s2 gMul (sK (.int 3)) (sV 5))) (sK (.int 26))) (sK (.int 26))))))))))
def m_law_names : Mir := mir 6 b_law_names
abbrev N_law_net : List Str := ["_law_purse_here", "_law_periods_here", "_law_names_here", "_law_found", "_law_at", "_law_reads", "_law_delay", "_law_name"]
abbrev s_law_net : Stmt := top 43
theorem sc_law_net : FnScope N_law_net ["_law_purse_here"] (defScope s_law_net) := ⟨rfl, rfl, rfl, by decide +kernel, rfl, by decide +kernel, by decide +kernel⟩
def b_law_net : SS := (kS (kSet 1 (sCallM 1 m_law_periods 0 aN))
    (kS (kParR 2 3 (sCallM 2 m_law_names 0 (aC (sL gLen (aC (sV 1) aN)) aN)) aN)
    (kS (kFor (iR (aC (sL gLen (aC (sV 1) aN)) aN)) (.nm 4)
    (kS (kSet 5 (sComp (iSeq (sV 2)) (.nm 7) (sB (s2 gEq (sCallM 2 m_law_draw 0 (aC (sK (.int 4)) aN)) (sK (.int 0)))) (sV 7)))
    (kS (kIf (bAnd (sB (s2 gGt (sV 4) (sK (.int 0)))) (sB (s2 gNotIn (s2 gIx (sV 2) (s2 gSub (sV 4) (sK (.int 1)))) (sV 5))))
    (kSet 5 (s2 gAdd (sV 5) (sL gLst (aC (s2 gIx (sV 2) (s2 gSub (sV 4) (sK (.int 1)))) aN)))) kN)
    (kS (kSet 6 (sCallM 2 m_law_pick 0 (aC (sL gLst (aC (sK (.int 0)) (aC (sK (.int 0)) (aC (sK (.int 0)) (aC (sK (.int 1)) (aC (sK (.int 2)) (aC (sCallM 2 m_law_draw 0 (aC (sK (.int 13)) aN)) (aC (sK (.int 100)) aN)))))))) aN)))
    (kApp 3 (sL gTup (aC (s2 gIx (sV 2) (sV 4)) (aC (s2 gIx (sV 1) (sV 4)) (aC (sV 6) (aC (sL gTuple (aC (sV 5) aN)) aN))))))))))
    (kRet (sL gTuple (aC (sV 3) aN))))))
def m_law_net : Mir := mir 8 b_law_net
abbrev N_is_name : List Str := ["value", "letter"]
abbrev s_is_name : Stmt := top 9
theorem sc_is_name : FnScope N_is_name ["value"] (defScope s_is_name) := ⟨rfl, rfl, rfl, by decide +kernel, rfl, by decide +kernel, by decide +kernel⟩
def b_is_name : SS := (kS (kIf (bOr (bNot (sB (s1 (gIsTy 2) (sV 0)))) (bNot (sB (sCh gLe gLe (sK (.int 1)) (sL gLen (aC (sV 0) aN)) (sK (.int 8))))))
    (kRet (sK (.bl false))) kN)
    (kRet (s2 gEqL (sComp (iStr (sV 0)) (.nm 1) (sB (s2 gNotIn (sV 1) (sK (.str "abcdefghijklmnopqrstuvwxyz")))) (sV 1)) (sL gLst aN))))
def m_is_name : Mir := mir 2 b_is_name
abbrev N_is_whole : List Str := ["value"]
abbrev s_is_whole : Stmt := top 8
theorem sc_is_whole : FnScope N_is_whole ["value"] (defScope s_is_whole) := ⟨rfl, rfl, rfl, by decide +kernel, rfl, by decide +kernel, by decide +kernel⟩
def b_is_whole : SS := (kRet (sAnd (s1 (gIsTy 1) (sV 0)) (s1 gNot (s1 (gIsTy 0) (sV 0)))))
def m_is_whole : Mir := mir 1 b_is_whole
abbrev N_are_names : List Str := ["value", "one"]
abbrev s_are_names : Stmt := top 10
theorem sc_are_names : FnScope N_are_names ["value"] (defScope s_are_names) := ⟨rfl, rfl, rfl, by decide +kernel, rfl, by decide +kernel, by decide +kernel⟩
def b_are_names : SS := (kS (kIf (bOr (bNot (sB (s1 (gIsTy 3) (sV 0)))) (sB (s2 gNe (sComp (iSeq (sV 0)) (.nm 1) (bNot (sB (sCall 1 m_is_name (aC (sV 1) aN)))) (sV 1)) (sL gLst aN))))
    (kRet (sK (.bl false))) kN)
    (kRet (s2 gEq (s1 gLenSet (sV 0)) (sL gLen (aC (sV 0) aN)))))
def m_are_names : Mir := mir 2 b_are_names
abbrev N_Step_init : List Str := ["self", "name", "period", "delay", "reads"]
abbrev s_Step_init : Stmt := inClass (top 15) 0
theorem sc_Step_init : FnScope N_Step_init ["self", "name", "period", "delay", "reads"] (defScope s_Step_init) := ⟨rfl, rfl, rfl, by decide +kernel, rfl, by decide +kernel, by decide +kernel⟩
def b_Step_init : SS := (kS (kIf (bOr (bNot (sB (sCall 1 m_is_name (aC (sV 1) aN)))) (bOr (bNot (sB (sCall 1 m_is_whole (aC (sV 2) aN)))) (bOr (bNot (sB (sCall 1 m_is_whole (aC (sV 3) aN)))) (bNot (sB (sCall 1 m_are_names (aC (sV 4) aN)))))))
    kNever kN)
    (kS (kIf (bOr (sB (s2 gLt (sV 2) (sK (.int 1)))) (sB (s2 gLt (sV 3) (sK (.int 0)))))
    kNever kN)
    (kS (kSelf 0 0 (sV 1))
    (kS (kSelf 0 1 (sV 2))
    (kS (kSelf 0 2 (sV 3))
    (kSelf 0 3 (sL gTuple (aC (sV 4) aN))))))))
def m_Step_init : Mir := mir 5 b_Step_init
abbrev N_are_steps : List Str := ["value", "names", "step", "one", "name"]
abbrev s_are_steps : Stmt := top 16
theorem sc_are_steps : FnScope N_are_steps ["value"] (defScope s_are_steps) := ⟨rfl, rfl, rfl, by decide +kernel, rfl, by decide +kernel, by decide +kernel⟩
def b_are_steps : SS := (kS (kIf (bOr (bNot (sB (s1 (gIsTy 3) (sV 0)))) (bOr (sB (s2 gEqL (sV 0) (sL gLst aN))) (sB (s2 gNe (sComp (iSeq (sV 0)) (.nm 3) (bNot (sB (s1 (gIsC 0) (sV 3)))) (sV 3)) (sL gLst aN)))))
    (kRet (sK (.bl false))) kN)
    (kS (kSet 1 (sComp (iSeq (sV 0)) (.nm 2) bYes (s1 (gFld 0 0) (sV 2))))
    (kS (kIf (bNot (sB (sCall 1 m_are_names (aC (sV 1) aN))))
    (kRet (sK (.bl false))) kN)
    (kS (kFor (iSeq (sV 0)) (.nm 2)
    (kIf (sB (s2 gNe (sComp (iTupl (s1 (gFld 0 3) (sV 2))) (.nm 4) (sB (s2 gNotIn (sV 4) (sV 1))) (sV 4)) (sL gLst aN)))
    (kRet (sK (.bl false))) kN))
    (kRet (sK (.bl true)))))))
def m_are_steps : Mir := mir 5 b_are_steps
abbrev N_Net_init : List Str := ["self", "steps"]
abbrev s_Net_init : Stmt := inClass (top 17) 0
theorem sc_Net_init : FnScope N_Net_init ["self", "steps"] (defScope s_Net_init) := ⟨rfl, rfl, rfl, by decide +kernel, rfl, by decide +kernel, by decide +kernel⟩
def b_Net_init : SS := (kS (kIf (bNot (sB (sCall 1 m_are_steps (aC (sV 1) aN))))
    kNever kN)
    (kSelf 1 0 (sL gTuple (aC (sV 1) aN))))
def m_Net_init : Mir := mir 2 b_Net_init
abbrev N_law_made : List Str := ["_law_net_here", "_law_name", "_law_period", "_law_delay", "_law_reads"]
abbrev s_law_made : Stmt := top 44
theorem sc_law_made : FnScope N_law_made ["_law_net_here"] (defScope s_law_made) := ⟨rfl, rfl, rfl, by decide +kernel, rfl, by decide +kernel, by decide +kernel⟩
def b_law_made : SS := (kRet (sMake 1 1 2 m_Net_init (aC (sComp (iTupl (sV 0)) (.tp [1, 2, 3, 4]) bYes (sMake 0 4 5 m_Step_init (aC (sV 1) (aC (sV 2) (aC (sV 3) (aC (sL gList (aC (sV 4) aN)) aN)))))) aN)))
def m_law_made : Mir := mir 5 b_law_made
abbrev N_law_phases : List Str := ["_law_purse_here", "_law_net_here", "_law_found", "_law_many", "_law_name", "_law_period", "_law_delay", "_law_reads", "_law_number"]
abbrev s_law_phases : Stmt := top 47
theorem sc_law_phases : FnScope N_law_phases ["_law_purse_here", "_law_net_here"] (defScope s_law_phases) := ⟨rfl, rfl, rfl, by decide +kernel, rfl, by decide +kernel, by decide +kernel⟩
def b_law_phases : SS := (kS (kParL 2 3 aN (sCallM 2 m_law_pick 0 (aC (sL gLst (aC (sK (.int 1)) (aC (sK (.int 1)) (aC (sK (.int 2)) (aC (sK (.int 3)) (aC (sK (.int 4)) (aC (sK (.int 7)) (aC (sK (.int 60)) aN)))))))) aN)))
    (kS (kFor (iTupl (sV 1)) (.tp [4, 5, 6, 7])
    (kS (kSet 8 (s2 gSub (sCallM 2 m_law_draw 0 (aC (s2 gMul (s2 gMul (sK (.int 3)) (sV 5)) (sV 3)) aN)) (sCallM 2 m_law_pick 0 (aC (sL gLst (aC (sK (.int 0)) (aC (sK (.int 0)) (aC (s2 gMul (sV 5) (sV 3)) aN)))) aN))))
    (kS (kApp 2 (sL gTup (aC (sV 8) (aC (sV 3) aN))))
    (kS (kIf (sB (s2 gEq (sCallM 2 m_law_draw 0 (aC (sK (.int 4)) aN)) (sK (.int 0))))
    (kPut 2 (s1 gNeg (sK (.int 1))) (sL gTup (aC (sCallM 2 m_law_draw 0 (aC (s2 gMul (sK (.int 2)) (sV 5)) aN)) (aC (sK (.int 1)) aN)))) kN)
    (kIf (sB (s2 gEq (sCallM 2 m_law_draw 0 (aC (sK (.int 8)) aN)) (sK (.int 0))))
    (kPut 2 (s1 gNeg (sK (.int 1))) (sL gTup (aC (s2 gMul (s2 gIx (sIxM 2 (s1 gNeg (sK (.int 1)))) (sK (.int 0))) (sK (.int 3))) (aC (s2 gMul (s2 gIx (sIxM 2 (s1 gNeg (sK (.int 1)))) (sK (.int 1))) (sK (.int 3))) aN)))) kN)))))
    (kRet (sL gTuple (aC (sV 2) aN)))))
def m_law_phases : Mir := mir 9 b_law_phases
abbrev N_law_path : List Str := ["_law_purse_here", "_law_net_here", "_law_found", "_law_turn", "_law_ahead", "_law_at"]
abbrev s_law_path : Stmt := top 45
theorem sc_law_path : FnScope N_law_path ["_law_purse_here", "_law_net_here"] (defScope s_law_path) := ⟨rfl, rfl, rfl, by decide +kernel, rfl, by decide +kernel, by decide +kernel⟩
def b_law_path : SS := (kS (kOwn 2 (aC (sCallM 2 m_law_draw 0 (aC (sL gLen (aC (sV 1) aN)) aN)) aN))
    (kS (kFor (iR (aC (sCallM 2 m_law_pick 0 (aC (sL gLst (aC (sK (.int 0)) (aC (sK (.int 1)) (aC (sK (.int 1)) (aC (sK (.int 2)) (aC (sK (.int 2)) (aC (sK (.int 3)) (aC (sK (.int 4)) aN)))))))) aN)) aN)) (.nm 3)
    (kS (kSet 4 (sComp (iR (aC (sL gLen (aC (sV 1) aN)) aN)) (.nm 5) (sB (s2 gIn (s2 gIx (s2 gIx (sV 1) (sIxM 2 (s1 gNeg (sK (.int 1))))) (sK (.int 0))) (s2 gIx (s2 gIx (sV 1) (sV 5)) (sK (.int 3))))) (sV 5)))
    (kIf (sB (s2 gNe (sV 4) (sL gLst aN)))
    (kApp 2 (sCallM 2 m_law_pick 0 (aC (sV 4) aN))) kN)))
    (kRet (sV 2))))
def m_law_path : Mir := mir 6 b_law_path
abbrev N_law_common : List Str := ["_law_numbers", "_law_found", "_law_number", "_law_shared", "_law_other"]
abbrev s_law_common : Stmt := top 50
theorem sc_law_common : FnScope N_law_common ["_law_numbers"] (defScope s_law_common) := ⟨rfl, rfl, rfl, by decide +kernel, rfl, by decide +kernel, by decide +kernel⟩
def b_law_common : SS := (kS (kSet 1 (sK (.int 1)))
    (kS (kFor (iSeq (sV 0)) (.nm 2)
    (kS (kPar [3, 4] (aC (sV 1) (aC (sV 2) aN)))
    (kS (kWhile (fuelI 4) (sB (s2 gGt (sV 4) (sK (.int 0))))
    (kPar [3, 4] (aC (sV 4) (aC (s2 gMod (sL gInt (aC (sV 3) aN)) (sL gInt (aC (sV 4) aN))) aN))))
    (kSet 1 (s2 gMul (s2 gFdiv (sV 1) (sV 3)) (sV 2))))))
    (kRet (sV 1))))
def m_law_common : Mir := mir 5 b_law_common
abbrev N_law_units : List Str := ["_law_phases_here", "_law_scale", "_law_number", "_law_total"]
abbrev s_law_units : Stmt := top 51
theorem sc_law_units : FnScope N_law_units ["_law_phases_here"] (defScope s_law_units) := ⟨rfl, rfl, rfl, by decide +kernel, rfl, by decide +kernel, by decide +kernel⟩
def b_law_units : SS := (kS (kSet 1 (sCall 1 m_law_common (aC (sComp (iTupl (sV 0)) (.tp [2, 3]) bYes (sV 3)) aN)))
    (kRet (sL gTup (aC (sComp (iTupl (sV 0)) (.tp [2, 3]) bYes (s2 gMul (sV 2) (s2 gFdiv (sV 1) (sV 3)))) (aC (sV 1) aN)))))
def m_law_units : Mir := mir 4 b_law_units
abbrev N_law_all_runs_turn : List Str := ["_law_net_here", "_law_name", "_law_period", "_law_delay", "_law_reads"]
abbrev s_law_all_runs_turn : Stmt := top 56
theorem sc_law_all_runs_turn : FnScope N_law_all_runs_turn ["_law_net_here"] (defScope s_law_all_runs_turn) := ⟨rfl, rfl, rfl, by decide +kernel, rfl, by decide +kernel, by decide +kernel⟩
def b_law_all_runs_turn : SS := (kRet (sCall 1 m_law_common (aC (sComp (iTupl (sV 0)) (.tp [1, 2, 3, 4]) bYes (sV 2)) aN)))
def m_law_all_runs_turn : Mir := mir 5 b_law_all_runs_turn
abbrev N_law_began : List Str := ["_law_net_here", "_law_units_here", "_law_at", "_law_run_here"]
abbrev s_law_began : Stmt := top 52
theorem sc_law_began : FnScope N_law_began ["_law_net_here", "_law_units_here", "_law_at", "_law_run_here"] (defScope s_law_began) := ⟨rfl, rfl, rfl, by decide +kernel, rfl, by decide +kernel, by decide +kernel⟩
def b_law_began : SS := (kRet (s2 gAdd (s2 gIx (s2 gIx (sV 1) (sK (.int 0))) (sV 2)) (s2 gMul (s2 gMul (sV 3) (s2 gIx (s2 gIx (sV 0) (sV 2)) (sK (.int 1)))) (s2 gIx (sV 1) (sK (.int 1))))))
def m_law_began : Mir := mir 4 b_law_began
abbrev N_law_wrote : List Str := ["_law_net_here", "_law_units_here", "_law_at", "_law_run_here"]
abbrev s_law_wrote : Stmt := top 53
theorem sc_law_wrote : FnScope N_law_wrote ["_law_net_here", "_law_units_here", "_law_at", "_law_run_here"] (defScope s_law_wrote) := ⟨rfl, rfl, rfl, by decide +kernel, rfl, by decide +kernel, by decide +kernel⟩
def b_law_wrote : SS := (kRet (s2 gAdd (sCall 4 m_law_began (aC (sV 0) (aC (sV 1) (aC (sV 2) (aC (sV 3) aN))))) (s2 gMul (s2 gIx (s2 gIx (sV 0) (sV 2)) (sK (.int 2))) (s2 gIx (sV 1) (sK (.int 1))))))
def m_law_wrote : Mir := mir 4 b_law_wrote
abbrev N_law_newest : List Str := ["_law_net_here", "_law_units_here", "_law_reader", "_law_source", "_law_run_here", "_law_begin", "_law_turn", "_law_found"]
abbrev s_law_newest : Stmt := top 54
theorem sc_law_newest : FnScope N_law_newest ["_law_net_here", "_law_units_here", "_law_reader", "_law_source", "_law_run_here"] (defScope s_law_newest) := ⟨rfl, rfl, rfl, by decide +kernel, rfl, by decide +kernel, by decide +kernel⟩
def b_law_newest : SS := (kS (kPar [5, 6] (aC (sCall 4 m_law_began (aC (sV 0) (aC (sV 1) (aC (sV 2) (aC (sV 4) aN))))) (aC (s2 gMul (s2 gIx (s2 gIx (sV 0) (sV 3)) (sK (.int 1))) (s2 gIx (sV 1) (sK (.int 1)))) aN)))
    (kS (kSet 7 (s2 gFdiv (s2 gSub (sV 5) (sCall 4 m_law_wrote (aC (sV 0) (aC (sV 1) (aC (sV 3) (aC (sK (.int 0)) aN)))))) (sV 6)))
    (kRet (sV 7))))
def m_law_newest : Mir := mir 8 b_law_newest
abbrev N_law_carried : List Str := ["_law_net_here", "_law_units_here", "_law_places", "_law_run_here", "_law_at"]
abbrev s_law_carried : Stmt := top 55
theorem sc_law_carried : FnScope N_law_carried ["_law_net_here", "_law_units_here", "_law_places", "_law_run_here"] (defScope s_law_carried) := ⟨rfl, rfl, rfl, by decide +kernel, rfl, by decide +kernel, by decide +kernel⟩
def b_law_carried : SS := (kS (kFor (iRD (aC (s2 gSub (sL gLen (aC (sV 2) aN)) (sK (.int 1))) (aC (sK (.int 0)) (aC (s2 gSub (sK (.int 0)) (sK (.int 1))) aN)))) (.nm 4)
    (kSet 3 (sCall 5 m_law_newest (aC (sV 0) (aC (sV 1) (aC (s2 gIx (sV 2) (sV 4)) (aC (s2 gIx (sV 2) (s2 gSub (sV 4) (sK (.int 1)))) (aC (sV 3) aN))))))))
    (kRet (sV 3)))
def m_law_carried : Mir := mir 5 b_law_carried
abbrev N_law_first_that_carries : List Str := ["_law_net_here", "_law_units_here", "_law_places", "_law_source", "_law_period", "_law_run_here", "_law_turn"]
abbrev s_law_first_that_carries : Stmt := top 57
theorem sc_law_first_that_carries : FnScope N_law_first_that_carries ["_law_net_here", "_law_units_here", "_law_places", "_law_source"] (defScope s_law_first_that_carries) := ⟨rfl, rfl, rfl, by decide +kernel, rfl, by decide +kernel, by decide +kernel⟩
def b_law_first_that_carries : SS := (kS (kSet 4 (s2 gMul (s2 gIx (s2 gIx (sV 0) (s2 gIx (sV 2) (s1 gNeg (sK (.int 1))))) (sK (.int 1))) (s2 gIx (sV 1) (sK (.int 1)))))
    (kS (kSet 5 (s2 gSub (s2 gFdiv (s2 gSub (sCall 4 m_law_began (aC (sV 0) (aC (sV 1) (aC (s2 gIx (sV 2) (sK (.int 0))) (aC (sV 3) aN))))) (s2 gIx (s2 gIx (sV 1) (sK (.int 0))) (s2 gIx (sV 2) (s1 gNeg (sK (.int 1)))))) (sV 4)) (sK (.int 1))))
    (kS (kFor (iR (aC (sK (.int 4000)) aN)) (.nm 6)
    (kS (kIf (sB (s2 gGe (sCall 4 m_law_carried (aC (sV 0) (aC (sV 1) (aC (sV 2) (aC (sV 5) aN))))) (sV 3)))
    (kRet (sV 5)) kN)
    (kSet 5 (s2 gAdd (sV 5) (sK (.int 1))))))
    (kRet (sK .non)))))
def m_law_first_that_carries : Mir := mir 7 b_law_first_that_carries
abbrev N_law_wait : List Str := ["_law_net_here", "_law_units_here", "_law_places", "_law_source", "_law_run_here"]
abbrev s_law_wait : Stmt := top 58
theorem sc_law_wait : FnScope N_law_wait ["_law_net_here", "_law_units_here", "_law_places", "_law_source"] (defScope s_law_wait) := ⟨rfl, rfl, rfl, by decide +kernel, rfl, by decide +kernel, by decide +kernel⟩
def b_law_wait : SS := (kS (kSet 4 (sCall 4 m_law_first_that_carries (aC (sV 0) (aC (sV 1) (aC (sV 2) (aC (s2 gAdd (sV 3) (sK (.int 1))) aN))))))
    (kRet (s2 gSub (sCall 4 m_law_wrote (aC (sV 0) (aC (sV 1) (aC (s2 gIx (sV 2) (s1 gNeg (sK (.int 1)))) (aC (sV 4) aN))))) (sCall 4 m_law_began (aC (sV 0) (aC (sV 1) (aC (s2 gIx (sV 2) (sK (.int 0))) (aC (sV 3) aN))))))))
def m_law_wait : Mir := mir 5 b_law_wait
abbrev N_law_named : List Str := ["_law_net_here", "_law_places", "_law_at"]
abbrev s_law_named : Stmt := top 46
theorem sc_law_named : FnScope N_law_named ["_law_net_here", "_law_places"] (defScope s_law_named) := ⟨rfl, rfl, rfl, by decide +kernel, rfl, by decide +kernel, by decide +kernel⟩
def b_law_named : SS := (kRet (sComp (iSeq (sV 1)) (.nm 2) bYes (s2 gIx (s2 gIx (sV 0) (sV 2)) (sK (.int 0)))))
def m_law_named : Mir := mir 3 b_law_named
abbrev N_check_net : List Str := ["value"]
abbrev s_check_net : Stmt := top 18
theorem sc_check_net : FnScope N_check_net ["value"] (defScope s_check_net) := ⟨rfl, rfl, rfl, by decide +kernel, rfl, by decide +kernel, by decide +kernel⟩
def b_check_net : SS := (kIf (bNot (sB (s1 (gIsC 1) (sV 0))))
    kNever kN)
def m_check_net : Mir := mir 1 b_check_net
abbrev N_is_fraction : List Str := ["value", "one"]
abbrev s_is_fraction : Stmt := top 19
theorem sc_is_fraction : FnScope N_is_fraction ["value"] (defScope s_is_fraction) := ⟨rfl, rfl, rfl, by decide +kernel, rfl, by decide +kernel, by decide +kernel⟩
def b_is_fraction : SS := (kS (kIf (bOr (bNot (sB (s1 (gIsTy 4) (sV 0)))) (bOr (sB (s2 gNe (sL gLen (aC (sV 0) aN)) (sK (.int 2)))) (sB (s2 gNe (sComp (iTupl (sV 0)) (.nm 1) (bNot (sB (sCall 1 m_is_whole (aC (sV 1) aN)))) (sV 1)) (sL gLst aN)))))
    (kRet (sK (.bl false))) kN)
    (kRet (s2 gGe (s2 gIx (sV 0) (sK (.int 1))) (sK (.int 1)))))
def m_is_fraction : Mir := mir 2 b_is_fraction
abbrev N_check_phases : List Str := ["net", "value", "one"]
abbrev s_check_phases : Stmt := top 20
theorem sc_check_phases : FnScope N_check_phases ["net", "value"] (defScope s_check_phases) := ⟨rfl, rfl, rfl, by decide +kernel, rfl, by decide +kernel, by decide +kernel⟩
def b_check_phases : SS := (kS (kIf (bOr (bNot (sB (s1 (gIsTy 4) (sV 1)))) (sB (s2 gNe (sL gLen (aC (sV 1) aN)) (sL gLen (aC (s1 (gFld 1 0) (sV 0)) aN)))))
    kNever kN)
    (kIf (sB (s2 gNe (sComp (iTupl (sV 1)) (.nm 2) (bNot (sB (sCall 1 m_is_fraction (aC (sV 2) aN)))) (sV 2)) (sL gLst aN)))
    kNever kN))
def m_check_phases : Mir := mir 3 b_check_phases
abbrev N_check_net_and_phases : List Str := ["net", "phases"]
abbrev s_check_net_and_phases : Stmt := top 35
theorem sc_check_net_and_phases : FnScope N_check_net_and_phases ["net", "phases"] (defScope s_check_net_and_phases) := ⟨rfl, rfl, rfl, by decide +kernel, rfl, by decide +kernel, by decide +kernel⟩
def b_check_net_and_phases : SS := (kS (kDrop (sCall 1 m_check_net (aC (sV 0) aN)))
    (kDrop (sCall 2 m_check_phases (aC (sV 0) (aC (sV 1) aN)))))
def m_check_net_and_phases : Mir := mir 2 b_check_net_and_phases
abbrev N_place_of : List Str := ["net", "name", "at", "step"]
abbrev s_place_of : Stmt := top 21
theorem sc_place_of : FnScope N_place_of ["net", "name"] (defScope s_place_of) := ⟨rfl, rfl, rfl, by decide +kernel, rfl, by decide +kernel, by decide +kernel⟩
def b_place_of : SS := (kS (kIf (bNot (sB (s1 (gIsTy 2) (sV 1))))
    (kRet (sK .non)) kN)
    (kS (kFor (iEnT (aC (s1 (gFld 1 0) (sV 0)) aN)) (.tp [2, 3])
    (kIf (sB (s2 gEq (s1 (gFld 0 0) (sV 3)) (sV 1)))
    (kRet (sV 2)) kN))
    (kRet (sK .non))))
def m_place_of : Mir := mir 4 b_place_of
abbrev N_check_path : List Str := ["net", "value", "one", "other"]
abbrev s_check_path : Stmt := top 22
theorem sc_check_path : FnScope N_check_path ["net", "value"] (defScope s_check_path) := ⟨rfl, rfl, rfl, by decide +kernel, rfl, by decide +kernel, by decide +kernel⟩
def b_check_path : SS := (kS (kIf (bOr (bNot (sB (s1 (gIsTy 3) (sV 1)))) (bOr (sB (s2 gEqL (sV 1) (sL gLst aN))) (sB (s2 gNe (sComp (iSeq (sV 1)) (.nm 2) (sB (s1 gIsN (sCall 2 m_place_of (aC (sV 0) (aC (sV 2) aN))))) (sV 2)) (sL gLst aN)))))
    kNever kN)
    (kFor (iZi (aC (sV 1) (aC (sSl (sV 1) (oS (sK (.int 1))) oN) aN))) (.tp [2, 3])
    (kIf (sB (s2 gNotIn (sV 2) (s1 (gFld 0 3) (s2 gIx (s1 (gFld 1 0) (sV 0)) (sCall 2 m_place_of (aC (sV 0) (aC (sV 3) aN)))))))
    kNever kN)))
def m_check_path : Mir := mir 4 b_check_path
abbrev N_common_divisor : List Str := ["one", "other"]
abbrev s_common_divisor : Stmt := top 11
theorem sc_common_divisor : FnScope N_common_divisor ["one", "other"] (defScope s_common_divisor) := ⟨rfl, rfl, rfl, by decide +kernel, rfl, by decide +kernel, by decide +kernel⟩
def b_common_divisor : SS := (kS (kWhile (fuelI 1) (sB (s2 gNe (sV 1) (sK (.int 0))))
    (kPar [0, 1] (aC (sV 1) (aC (s2 gMod (sL gInt (aC (sV 0) aN)) (sL gInt (aC (sV 1) aN))) aN))))
    (kRet (sV 0)))
def m_common_divisor : Mir := mir 2 b_common_divisor
abbrev N_common_multiple : List Str := ["numbers", "found", "number"]
abbrev s_common_multiple : Stmt := top 12
theorem sc_common_multiple : FnScope N_common_multiple ["numbers"] (defScope s_common_multiple) := ⟨rfl, rfl, rfl, by decide +kernel, rfl, by decide +kernel, by decide +kernel⟩
def b_common_multiple : SS := (kS (kSet 1 (sK (.int 1)))
    (kS (kFor (iSeq (sV 0)) (.nm 2)
    (kSet 1 (s2 gMul (s2 gFdiv (sV 1) (sCall 2 m_common_divisor (aC (sV 1) (aC (sV 2) aN)))) (sV 2))))
    (kRet (sV 1))))
def m_common_multiple : Mir := mir 3 b_common_multiple
abbrev N_in_units : List Str := ["phases", "scale", "number", "total"]
abbrev s_in_units : Stmt := top 34
theorem sc_in_units : FnScope N_in_units ["phases"] (defScope s_in_units) := ⟨rfl, rfl, rfl, by decide +kernel, rfl, by decide +kernel, by decide +kernel⟩
def b_in_units : SS := (kS (kSet 1 (sCall 1 m_common_multiple (aC (sComp (iTupl (sV 0)) (.tp [2, 3]) bYes (sV 3)) aN)))
    (kRet (sL gTup (aC (sComp (iTupl (sV 0)) (.tp [2, 3]) bYes (s2 gMul (sV 2) (s2 gFdiv (sV 1) (sV 3)))) (aC (sV 1) aN)))))
def m_in_units : Mir := mir 4 b_in_units
abbrev N_places_of : List Str := ["net", "path", "name"]
abbrev s_places_of : Stmt := top 23
theorem sc_places_of : FnScope N_places_of ["net", "path"] (defScope s_places_of) := ⟨rfl, rfl, rfl, by decide +kernel, rfl, by decide +kernel, by decide +kernel⟩
def b_places_of : SS := (kRet (sComp (iSeq (sV 1)) (.nm 2) bYes (sCall 2 m_place_of (aC (sV 0) (aC (sV 2) aN)))))
def m_places_of : Mir := mir 3 b_places_of
abbrev N_whole_turn : List Str := ["net", "step"]
abbrev s_whole_turn : Stmt := top 24
theorem sc_whole_turn : FnScope N_whole_turn ["net"] (defScope s_whole_turn) := ⟨rfl, rfl, rfl, by decide +kernel, rfl, by decide +kernel, by decide +kernel⟩
def b_whole_turn : SS := (kRet (sCall 1 m_common_multiple (aC (sComp (iTupl (s1 (gFld 1 0) (sV 0))) (.nm 1) bYes (s1 (gFld 0 1) (sV 1))) aN)))
def m_whole_turn : Mir := mir 2 b_whole_turn
abbrev N_runs_in_turn : List Str := ["net", "place"]
abbrev s_runs_in_turn : Stmt := top 30
theorem sc_runs_in_turn : FnScope N_runs_in_turn ["net", "place"] (defScope s_runs_in_turn) := ⟨rfl, rfl, rfl, by decide +kernel, rfl, by decide +kernel, by decide +kernel⟩
def b_runs_in_turn : SS := (kRet (s2 gFdiv (sCall 1 m_whole_turn (aC (sV 0) aN)) (s1 (gFld 0 1) (s2 gIx (s1 (gFld 1 0) (sV 0)) (sV 1)))))
def m_runs_in_turn : Mir := mir 2 b_runs_in_turn
abbrev N_run_read : List Str := ["net", "starts", "scale", "reader", "source", "run", "begin", "behind"]
abbrev s_run_read : Stmt := top 26
theorem sc_run_read : FnScope N_run_read ["net", "starts", "scale", "reader", "source", "run"] (defScope s_run_read) := ⟨rfl, rfl, rfl, by decide +kernel, rfl, by decide +kernel, by decide +kernel⟩
def b_run_read : SS := (kS (kSet 6 (s2 gAdd (s2 gIx (sV 1) (sV 3)) (s2 gMul (s2 gMul (sV 5) (s1 (gFld 0 1) (s2 gIx (s1 (gFld 1 0) (sV 0)) (sV 3)))) (sV 2))))
    (kS (kSet 7 (s2 gSub (s2 gSub (sV 6) (s2 gIx (sV 1) (sV 4))) (s2 gMul (s1 (gFld 0 2) (s2 gIx (s1 (gFld 1 0) (sV 0)) (sV 4))) (sV 2))))
    (kRet (s2 gFdiv (sV 7) (s2 gMul (s1 (gFld 0 1) (s2 gIx (s1 (gFld 1 0) (sV 0)) (sV 4))) (sV 2))))))
def m_run_read : Mir := mir 8 b_run_read
abbrev N_run_carried : List Str := ["net", "starts", "scale", "places", "run", "at"]
abbrev s_run_carried : Stmt := top 27
theorem sc_run_carried : FnScope N_run_carried ["net", "starts", "scale", "places", "run"] (defScope s_run_carried) := ⟨rfl, rfl, rfl, by decide +kernel, rfl, by decide +kernel, by decide +kernel⟩
def b_run_carried : SS := (kS (kFor (iRD (aC (s2 gSub (sL gLen (aC (sV 3) aN)) (sK (.int 1))) (aC (sK (.int 0)) (aC (s1 gNeg (sK (.int 1))) aN)))) (.nm 5)
    (kSet 4 (sCall 6 m_run_read (aC (sV 0) (aC (sV 1) (aC (sV 2) (aC (s2 gIx (sV 3) (sV 5)) (aC (s2 gIx (sV 3) (s2 gSub (sV 5) (sK (.int 1)))) (aC (sV 4) aN)))))))))
    (kRet (sV 4)))
def m_run_carried : Mir := mir 6 b_run_carried
abbrev N_all_carried : List Str := ["net", "starts", "scale", "places", "many", "run"]
abbrev s_all_carried : Stmt := top 31
theorem sc_all_carried : FnScope N_all_carried ["net", "starts", "scale", "places"] (defScope s_all_carried) := ⟨rfl, rfl, rfl, by decide +kernel, rfl, by decide +kernel, by decide +kernel⟩
def b_all_carried : SS := (kS (kSet 4 (sCall 2 m_runs_in_turn (aC (sV 0) (aC (s2 gIx (sV 3) (s1 gNeg (sK (.int 1)))) aN))))
    (kRet (sComp (iR2 (aC (s2 gSub (sK (.int 0)) (sK (.int 1))) (aC (sV 4) aN))) (.nm 5) bYes (sCall 5 m_run_carried (aC (sV 0) (aC (sV 1) (aC (sV 2) (aC (sV 3) (aC (sV 5) aN)))))))))
def m_all_carried : Mir := mir 6 b_all_carried
abbrev N_time_begun : List Str := ["net", "starts", "scale", "place", "run"]
abbrev s_time_begun : Stmt := top 28
theorem sc_time_begun : FnScope N_time_begun ["net", "starts", "scale", "place", "run"] (defScope s_time_begun) := ⟨rfl, rfl, rfl, by decide +kernel, rfl, by decide +kernel, by decide +kernel⟩
def b_time_begun : SS := (kRet (s2 gAdd (s2 gIx (sV 1) (sV 3)) (s2 gMul (s2 gMul (sV 4) (s1 (gFld 0 1) (s2 gIx (s1 (gFld 1 0) (sV 0)) (sV 3)))) (sV 2))))
def m_time_begun : Mir := mir 5 b_time_begun
abbrev N_time_written : List Str := ["net", "starts", "scale", "place", "run"]
abbrev s_time_written : Stmt := top 29
theorem sc_time_written : FnScope N_time_written ["net", "starts", "scale", "place", "run"] (defScope s_time_written) := ⟨rfl, rfl, rfl, by decide +kernel, rfl, by decide +kernel, by decide +kernel⟩
def b_time_written : SS := (kRet (s2 gAdd (sCall 5 m_time_begun (aC (sV 0) (aC (sV 1) (aC (sV 2) (aC (sV 3) (aC (sV 4) aN)))))) (s2 gMul (s1 (gFld 0 2) (s2 gIx (s1 (gFld 1 0) (sV 0)) (sV 3))) (sV 2))))
def m_time_written : Mir := mir 5 b_time_written
abbrev N_greatest_wait : List Str := ["net", "starts", "scale", "places", "sources", "best", "run", "before", "source", "written", "wait"]
abbrev s_greatest_wait : Stmt := top 32
theorem sc_greatest_wait : FnScope N_greatest_wait ["net", "starts", "scale", "places"] (defScope s_greatest_wait) := ⟨rfl, rfl, rfl, by decide +kernel, rfl, by decide +kernel, by decide +kernel⟩
def b_greatest_wait : SS := (kS (kSet 4 (sCall 4 m_all_carried (aC (sV 0) (aC (sV 1) (aC (sV 2) (aC (sV 3) aN))))))
    (kS (kSet 5 (sK .non))
    (kS (kFor (iEnZ (aC (sV 4) (aC (sSl (sV 4) (oS (sK (.int 1))) oN) aN))) (.np 6 [7, 8])
    (kIf (sB (s2 gLt (sV 7) (sV 8)))
    (kS (kSet 9 (sCall 5 m_time_written (aC (sV 0) (aC (sV 1) (aC (sV 2) (aC (s2 gIx (sV 3) (s1 gNeg (sK (.int 1)))) (aC (sV 6) aN)))))))
    (kS (kSet 10 (s2 gSub (sV 9) (sCall 5 m_time_begun (aC (sV 0) (aC (sV 1) (aC (sV 2) (aC (s2 gIx (sV 3) (sK (.int 0))) (aC (sV 7) aN))))))))
    (kIf (bOr (sB (s1 gIsN (sV 5))) (sB (s2 gGt (sV 10) (sV 5))))
    (kSet 5 (sV 10)) kN))) kN))
    (kRet (sV 5)))))
def m_greatest_wait : Mir := mir 11 b_greatest_wait
abbrev N_lowest : List Str := ["number", "total", "shared"]
abbrev s_lowest : Stmt := top 13
theorem sc_lowest : FnScope N_lowest ["number", "total"] (defScope s_lowest) := ⟨rfl, rfl, rfl, by decide +kernel, rfl, by decide +kernel, by decide +kernel⟩
def b_lowest : SS := (kS (kSet 2 (sCall 2 m_common_divisor (aC (sL gAbs (aC (sV 0) aN)) (aC (sV 1) aN))))
    (kRet (sL gTup (aC (s2 gFdiv (sV 0) (sV 2)) (aC (s2 gFdiv (sV 1) (sV 2)) aN)))))
def m_lowest : Mir := mir 3 b_lowest
abbrev N_longest_wait : List Str := ["net", "phases", "path", "starts", "scale"]
abbrev s_longest_wait : Stmt := top 36
theorem sc_longest_wait : FnScope N_longest_wait ["net", "phases", "path"] (defScope s_longest_wait) := ⟨rfl, rfl, rfl, by decide +kernel, rfl, by decide +kernel, by decide +kernel⟩
def b_longest_wait : SS := (kS (kDrop (sCall 2 m_check_net_and_phases (aC (sV 0) (aC (sV 1) aN))))
    (kS (kDrop (sCall 2 m_check_path (aC (sV 0) (aC (sV 2) aN))))
    (kS (kTup [3, 4] (sCall 1 m_in_units (aC (sV 1) aN)))
    (kRet (sCall 2 m_lowest (aC (sCall 4 m_greatest_wait (aC (sV 0) (aC (sV 3) (aC (sV 4) (aC (sCall 2 m_places_of (aC (sV 0) (aC (sV 2) aN))) aN))))) (aC (sV 4) aN)))))))
def m_longest_wait : Mir := mir 5 b_longest_wait
abbrev N_law_low : List Str := ["_law_number", "_law_total", "_law_one", "_law_other"]
abbrev s_law_low : Stmt := top 49
theorem sc_law_low : FnScope N_law_low ["_law_number", "_law_total"] (defScope s_law_low) := ⟨rfl, rfl, rfl, by decide +kernel, rfl, by decide +kernel, by decide +kernel⟩
def b_law_low : SS := (kS (kPar [2, 3] (aC (sL gAbs (aC (sV 0) aN)) (aC (sV 1) aN)))
    (kS (kWhile (fuelI 3) (sB (s2 gGt (sV 3) (sK (.int 0))))
    (kPar [2, 3] (aC (sV 3) (aC (s2 gMod (sL gInt (aC (sV 2) aN)) (sL gInt (aC (sV 3) aN))) aN))))
    (kRet (sL gTup (aC (s2 gFdiv (sV 0) (sV 2)) (aC (s2 gFdiv (sV 1) (sV 2)) aN))))))
def m_law_low : Mir := mir 4 b_law_low
abbrev N_law_run : List Str := ["_law_purse_here", "_law_number", "_law_turn"]
abbrev s_law_run : Stmt := top 48
theorem sc_law_run : FnScope N_law_run ["_law_purse_here"] (defScope s_law_run) := ⟨rfl, rfl, rfl, by decide +kernel, rfl, by decide +kernel, by decide +kernel⟩
def b_law_run : SS := (kS (kSet 1 (sCallM 2 m_law_draw 0 (aC (sK (.int 50)) aN)))
    (kS (kFor (iR (aC (sCallM 2 m_law_pick 0 (aC (sL gLst (aC (sK (.int 0)) (aC (sK (.int 0)) (aC (sK (.int 0)) (aC (sK (.int 1)) (aC (sK (.int 9)) aN)))))) aN)) aN)) (.nm 2)
    (kSet 1 (s2 gAdd (s2 gMul (sV 1) (sK (.int 1000))) (sCallM 2 m_law_draw 0 (aC (sK (.int 999)) aN)))))
    (kRet (s2 gSub (sV 1) (sCallM 2 m_law_pick 0 (aC (sL gLst (aC (sK (.int 0)) (aC (s2 gMul (sK (.int 2)) (sV 1)) aN))) aN))))))
def m_law_run : Mir := mir 3 b_law_run
abbrev N_law : List Str := ["_law_script", "_law_turn", "_law_purse_here", "_law_net_here", "_law_made_here", "_law_phases_here", "_law_places", "_law_units_here", "_law_many", "_law_due", "_law_source", "_law_at", "_law_moment", "_law_run_here"]
abbrev s_law : Stmt := top 59
theorem sc_law : FnScope N_law ["_law_script"] (defScope s_law) := ⟨rfl, rfl, rfl, by decide +kernel, rfl, by decide +kernel, by decide +kernel⟩
def b_law : SS := (kS (kFor (iR (aC (sK (.int 5)) aN)) (.nm 1)
    (kS (kOwnC 2 2 m_law_purse (aC (sV 0) (aC (sV 1) aN)))
    (kS (kSet 3 (sCallM 1 m_law_net 2 aN))
    (kS (kTup [4, 5, 6] (sL gTup (aC (sCall 1 m_law_made (aC (sV 3) aN)) (aC (sCallM 2 m_law_phases 2 (aC (sV 3) aN)) (aC (sCallM 2 m_law_path 2 (aC (sV 3) aN)) aN)))))
    (kS (kSet 7 (sCall 1 m_law_units (aC (sV 5) aN)))
    (kS (kSet 8 (s2 gFdiv (sCall 1 m_law_all_runs_turn (aC (sV 3) aN)) (s2 gIx (s2 gIx (sV 3) (s2 gIx (sV 6) (sK (.int 0)))) (sK (.int 1)))))
    (kS (kSet 9 (sL gMax (aC (sComp (iR (aC (sV 8) aN)) (.nm 10) bYes (sL gInt (aC (sCall 4 m_law_wait (aC (sV 3) (aC (sV 7) (aC (sV 6) (aC (sV 10) aN))))) aN))) aN)))
    (kS (kIf (sB (s2 gNe (sL gRep (aC (sCall 3 m_longest_wait (aC (sV 4) (aC (sV 5) (aC (sCall 2 m_law_named (aC (sV 3) (aC (sV 6) aN))) aN)))) aN)) (sL gRep (aC (sCall 2 m_law_low (aC (sV 9) (aC (s2 gIx (sV 7) (sK (.int 1))) aN))) aN))))
    (kRet (sK (.bl false))) kN)
    (kFor (iR (aC (sK (.int 4)) aN)) (.nm 11)
    (kS (kSet 10 (sCallM 1 m_law_run 2 aN))
    (kS (kSet 12 (s2 gSub (sCall 4 m_law_began (aC (sV 3) (aC (sV 7) (aC (s2 gIx (sV 6) (sK (.int 0))) (aC (sV 10) aN))))) (sCallM 2 m_law_draw 2 (aC (s2 gMul (s2 gIx (s2 gIx (sV 3) (s2 gIx (sV 6) (sK (.int 0)))) (sK (.int 1))) (s2 gIx (sV 7) (sK (.int 1)))) aN))))
    (kS (kSet 13 (sCall 4 m_law_first_that_carries (aC (sV 3) (aC (sV 7) (aC (sV 6) (aC (sV 10) aN))))))
    (kIf (sB (s2 gGe (s2 gSub (sCall 4 m_law_wrote (aC (sV 3) (aC (sV 7) (aC (s2 gIx (sV 6) (s1 gNeg (sK (.int 1)))) (aC (sV 13) aN))))) (sV 12)) (sV 9)))
    (kRet (sK (.bl false))) kN)))))))))))))
    (kRet (sK (.bl true))))
def m_law : Mir := mir 14 b_law
section
variable {P : Program} {w : World} {mg : Str → Option Value} {base : Heap} {G : Gx}
theorem ok_law_purse (T : Txt G mg) {f : Addr} {fd : FuncData} (F : Fun G.K "_law_purse" "_law_purse" s_law_purse f fd)  : FnOk P w G.K mg base CX0 1 f fd ["_law_script", "_law_at"] (spM G 2 m_law_purse) :=
  fn_okM F sc_law_purse fun c cdv A outer sh H E hG hr => by
    subst hG
    exact (vs_cons (vs_set (i := 2) sc_law_purse.nd ve_int)
    (vs_cons (vs_if (vt_cmp od_lt (ve_var (pv 1)) (ve_callB (ca_len rfl) T.n_len bt_len (va_cons (ve_var (pv 0)) va_nil)))
    (vs_one (vs_set (i := 2) sc_law_purse.nd (ve_ix rfl (ve_var (pv 0)) (ve_var (pv 1))))) vs_nil)
    (vs_one (vs_retL (va_cons (ve_op od_mod (ve_callT ca_int T.n_int bt_int (va_cons (ve_callB (ca_max rfl) T.n_max bt_max (va_cons (ve_op od_sub (ve_var (pv 2)) (ve_op od_pow ve_int ve_int)) (va_cons ve_int va_nil))) va_nil)) (ve_op od_pow (ve_op od_pow ve_int ve_int) ve_int)) (va_cons (ve_op od_mod (ve_callT ca_int T.n_int bt_int (va_cons (ve_var (pv 2)) va_nil)) ve_int) (va_cons ve_int va_nil)))))))
theorem ok_law_draw (T : Txt G mg) {f : Addr} {fd : FuncData} (F : Fun G.K "_law_draw" "_law_draw" s_law_draw f fd)  : FnOk P w G.K mg base CX0 1 f fd ["_law_purse_here", "_law_many"] (spV G 2 m_law_draw) :=
  fn_ok F sc_law_draw fun c cdv A outer sh H E hG hr => by
    subst hG
    exact (vs_cons (vs_if (vt_cmp od_gt (ve_ixM (pv 0) ve_int) ve_int)
    (vs_cons (vs_set (i := 2) sc_law_draw.nd (ve_op od_mod (ve_callT ca_int T.n_int bt_int (va_cons (ve_ixM (pv 0) ve_int) va_nil)) (ve_var (pv 1))))
    (vs_cons (vs_put (pv 0) ve_int (ve_op od_fdiv (ve_ixM (pv 0) ve_int) (ve_var (pv 1))))
    (vs_one (vs_ret (ve_var (pv 2)))))) vs_nil)
    (vs_cons (vs_set (i := 3) sc_law_draw.nd (ve_op od_add (ve_ixM (pv 0) ve_int) ve_int))
    (vs_cons (vs_put (pv 0) ve_int (ve_var (pv 3)))
    (vs_cons (vs_set (i := 4) sc_law_draw.nd (ve_op od_mod (ve_callT ca_int T.n_int bt_int (va_cons (ve_op od_mul (ve_op od_add (ve_ixM (pv 0) ve_int) (ve_op od_mul ve_int (ve_var (pv 3)))) (ve_op od_add (ve_op od_mul (ve_var (pv 3)) (ve_var (pv 3))) ve_int)) va_nil)) ve_int))
    (vs_cons (vs_set (i := 4) sc_law_draw.nd (ve_op od_mod (ve_callT ca_int T.n_int bt_int (va_cons (ve_op od_add (ve_op od_mul (ve_var (pv 4)) (ve_var (pv 4))) (ve_var (pv 3))) va_nil)) ve_int))
    (vs_one (vs_ret (ve_op od_mod (ve_op od_fdiv (ve_op od_mod (ve_callT ca_int T.n_int bt_int (va_cons (ve_op od_mul (ve_var (pv 4)) ve_int) va_nil)) ve_int) ve_int) (ve_var (pv 1))))))))))
theorem ok_law_pick (T : Txt G mg) {f : Addr} {fd : FuncData} (F : Fun G.K "_law_pick" "_law_pick" s_law_pick f fd) (C__law_draw : Cal P w G mg base "_law_draw" 1 2 m_law_draw) : FnOk P w G.K mg base CX0 2 f fd ["_law_purse_here", "_law_items"] (spV G 2 m_law_pick) :=
  fn_ok F sc_law_pick fun c cdv A outer sh H E hG hr => by
    subst hG
    exact (vs_one (vs_ret (ve_ix rfl (ve_var (pv 1)) (ve_callM C__law_draw rfl (hr.mono (by decide)) (pv 0) (va_cons (ve_callB (ca_len rfl) T.n_len bt_len (va_cons (ve_var (pv 1)) va_nil)) va_nil)))))
theorem ok_law_periods (T : Txt G mg) {f : Addr} {fd : FuncData} (F : Fun G.K "_law_periods" "_law_periods" s_law_periods f fd) (C__law_pick : Cal P w G mg base "_law_pick" 2 2 m_law_pick) (C__law_draw : Cal P w G mg base "_law_draw" 1 2 m_law_draw) : FnOk P w G.K mg base CX0 3 f fd ["_law_purse_here"] (spV G 1 m_law_periods) :=
  fn_ok F sc_law_periods fun c cdv A outer sh H E hG hr => by
    subst hG
    exact (vs_cons (vs_set (i := 1) sc_law_periods.nd (ve_lst (va_cons (ve_lst (va_cons ve_int (va_cons ve_int va_nil))) (va_cons (ve_lst (va_cons ve_int (va_cons ve_int va_nil))) (va_cons (ve_lst (va_cons ve_int (va_cons ve_int va_nil))) (va_cons (ve_lst (va_cons ve_int (va_cons ve_int va_nil))) (va_cons (ve_lst (va_cons ve_int (va_cons ve_int va_nil))) (va_cons (ve_lst (va_cons ve_int (va_cons ve_int va_nil))) (va_cons (ve_lst (va_cons ve_int (va_cons ve_int va_nil))) (va_cons (ve_lst (va_cons ve_int (va_cons ve_int va_nil))) (va_cons (ve_lst (va_cons ve_int (va_cons ve_int va_nil))) (va_cons (ve_lst (va_cons ve_int (va_cons ve_int va_nil))) (va_cons (ve_lst (va_cons ve_int (va_cons ve_int va_nil))) (va_cons (ve_lst (va_cons ve_int va_nil)) (va_cons (ve_lst (va_cons ve_int va_nil)) va_nil)))))))))))))))
    (vs_cons (vs_set (i := 1) sc_law_periods.nd (ve_op od_add (ve_var (pv 1)) (ve_lst (va_cons (ve_lst (va_cons ve_int (va_cons ve_int (va_cons ve_int va_nil)))) (va_cons (ve_lst (va_cons ve_int (va_cons ve_int (va_cons ve_int va_nil)))) (va_cons (ve_lst (va_cons ve_int (va_cons ve_int (va_cons ve_int va_nil)))) (va_cons (ve_lst (va_cons ve_int (va_cons ve_int (va_cons ve_int va_nil)))) (va_cons (ve_lst (va_cons ve_int (va_cons ve_int (va_cons ve_int va_nil)))) (va_cons (ve_lst (va_cons ve_int (va_cons ve_int (va_cons ve_int va_nil)))) (va_cons (ve_lst (va_cons ve_int (va_cons ve_int (va_cons ve_int va_nil)))) (va_cons (ve_lst (va_cons ve_int (va_cons ve_int (va_cons ve_int va_nil)))) va_nil)))))))))))
    (vs_cons (vs_set (i := 1) sc_law_periods.nd (ve_op od_add (ve_var (pv 1)) (ve_lst (va_cons (ve_lst (va_cons ve_int (va_cons ve_int (va_cons ve_int va_nil)))) (va_cons (ve_lst (va_cons ve_int (va_cons ve_int (va_cons ve_int va_nil)))) (va_cons (ve_lst (va_cons ve_int (va_cons ve_int (va_cons ve_int va_nil)))) (va_cons (ve_lst (va_cons ve_int (va_cons ve_int (va_cons ve_int va_nil)))) (va_cons (ve_lst (va_cons ve_int (va_cons ve_int (va_cons ve_int (va_cons ve_int va_nil))))) (va_cons (ve_lst (va_cons ve_int (va_cons ve_int (va_cons ve_int (va_cons ve_int va_nil))))) (va_cons (ve_lst (va_cons ve_int (va_cons ve_int (va_cons ve_int (va_cons ve_int va_nil))))) va_nil))))))))))
    (vs_cons (vs_set (i := 1) sc_law_periods.nd (ve_op od_add (ve_var (pv 1)) (ve_lst (va_cons (ve_lst (va_cons ve_int (va_cons ve_int (va_cons ve_int (va_cons ve_int va_nil))))) (va_cons (ve_lst (va_cons ve_int (va_cons ve_int (va_cons ve_int (va_cons ve_int va_nil))))) va_nil)))))
    (vs_cons (vs_set (i := 2) sc_law_periods.nd (ve_callT ca_list T.n_list bt_list (va_cons (ve_callM C__law_pick rfl (hr.mono (by decide)) (pv 0) (va_cons (ve_var (pv 1)) va_nil)) va_nil)))
    (vs_cons (vs_set (i := 3) sc_law_periods.nd (ve_callM C__law_draw rfl (hr.mono (by decide)) (pv 0) (va_cons (ve_callB (ca_len rfl) T.n_len bt_len (va_cons (ve_var (pv 2)) va_nil)) va_nil)))
    (vs_one (vs_ret (ve_op od_add (ve_slice (ve_var (pv 2)) (vo_some (ve_var (pv 3))) vo_none) (ve_slice (ve_var (pv 2)) vo_none (vo_some (ve_var (pv 3)))))))))))))
theorem ok_law_names (T : Txt G mg) {f : Addr} {fd : FuncData} (F : Fun G.K "_law_names" "_law_names" s_law_names f fd) (C__law_draw : Cal P w G mg base "_law_draw" 1 2 m_law_draw) (C__law_pick : Cal P w G mg base "_law_pick" 2 2 m_law_pick) : FnOk P w G.K mg base CX0 3 f fd ["_law_purse_here", "_law_many"] (spV G 2 m_law_names) :=
  fn_ok F sc_law_names fun c cdv A outer sh H E hG hr => by
    subst hG
    exact (vs_cons (vs_tup [2, 3] (ve_tup (va_cons (ve_callM C__law_draw rfl (hr.mono (by decide)) (pv 0) (va_cons ve_int va_nil)) (va_cons (ve_callM C__law_pick rfl (hr.mono (by decide)) (pv 0) (va_cons (ve_lst (va_cons ve_str (va_cons ve_str (va_cons ve_str (va_cons ve_str (va_cons ve_str (va_cons ve_str va_nil))))))) va_nil)) va_nil))) (pg_tup rfl (pgs_cons (pg_name (i := 2) sc_law_names.nd rfl (Or.inr rfl)) (pgs_cons (pg_name (i := 3) sc_law_names.nd rfl (Or.inr rfl)) pgs_nil))))
    (vs_cons (vs_set (i := 4) sc_law_names.nd ve_str)
    (vs_one (vs_ret (ve_lc (own := [("_law_at", 5)]) (.nm 5) rfl sc_law_names.nd (vi_range1 T.n_range (va_cons (ve_var (pv 1)) va_nil)) (blkOk_by (N := N_law_names) (sc := defScope s_law_names) (by decide +kernel)) rfl (fun _ _ _ _ _ => (pg_name (i := 5) sc_law_names.nd rfl (Or.inl rfl))) (fun _ _ _ _ _ _ _ _ => vts_nil) (fun _ _ _ _ _ _ _ _ => (ve_op od_add (ve_var (pv 3)) (ve_ix rfl (ve_var (pv 4)) (ve_op od_sub (ve_op od_add (ve_var (pv 2)) (ve_op od_mul ve_int (ve_var (pv 5)))) (ve_op od_mul (ve_op od_fdiv (ve_op od_add (ve_var (pv 2)) (ve_op od_mul ve_int (ve_var (pv 5)))) ve_int) ve_int))))))))))
theorem ok_law_net (T : Txt G mg) {f : Addr} {fd : FuncData} (F : Fun G.K "_law_net" "_law_net" s_law_net f fd) (C__law_periods : Cal P w G mg base "_law_periods" 3 1 m_law_periods) (C__law_names : Cal P w G mg base "_law_names" 3 2 m_law_names) (C__law_draw : Cal P w G mg base "_law_draw" 1 2 m_law_draw) (C__law_pick : Cal P w G mg base "_law_pick" 2 2 m_law_pick) : FnOk P w G.K mg base CX0 4 f fd ["_law_purse_here"] (spV G 1 m_law_net) :=
  fn_ok F sc_law_net fun c cdv A outer sh H E hG hr => by
    subst hG
    exact (vs_cons (vs_set (i := 1) sc_law_net.nd (ve_callM C__law_periods rfl (hr.mono (by decide)) (pv 0) va_nil))
    (vs_cons (vs_parR (i := 2) (j := 3) rfl sc_law_net.nd (ve_callM C__law_names rfl (hr.mono (by decide)) (pv 0) (va_cons (ve_callB (ca_len rfl) T.n_len bt_len (va_cons (ve_var (pv 1)) va_nil)) va_nil)) va_nil rfl)
    (vs_cons (vs_for (t := (.nm 4)) PassesOwn.never rfl (vi_range1 T.n_range (va_cons (ve_callB (ca_len rfl) T.n_len bt_len (va_cons (ve_var (pv 1)) va_nil)) va_nil)) (pg_name (i := 4) sc_law_net.nd rfl (Or.inl rfl))
    (vs_cons (vs_setLc (i := 5) (own := [("_law_name", 7)]) (.nm 7) rfl sc_law_net.nd (vi_list (ve_var (pv 2))) (blkOk_by (N := N_law_net) (sc := defScope s_law_net) (by decide +kernel)) rfl (fun _ _ _ _ _ => (pg_name (i := 7) sc_law_net.nd rfl (Or.inl rfl))) (fun _ _ _ _ _ _ _ _ => (vts_one (vt_cmp (od_eq hr.units) (ve_callM C__law_draw rfl (hr.mono (by decide)) (pv 0) (va_cons ve_int va_nil)) ve_int))) (fun _ _ _ _ _ _ _ _ => (ve_var (pv 7))) (sw_true rfl rfl rfl (by decide +kernel)))
    (vs_cons (vs_if (PW.pt (vw_and (vt_cmp od_gt (ve_var (pv 4)) ve_int) (pw_and1 (vt_cmp od_notin (ve_ix rfl (ve_var (pv 2)) (ve_op od_sub (ve_var (pv 4)) ve_int)) (ve_var (pv 5))))))
    (vs_one (vs_set (i := 5) sc_law_net.nd (ve_op od_add (ve_var (pv 5)) (ve_lst (va_cons (ve_ix rfl (ve_var (pv 2)) (ve_op od_sub (ve_var (pv 4)) ve_int)) va_nil))))) vs_nil)
    (vs_cons (vs_set (i := 6) sc_law_net.nd (ve_callM C__law_pick rfl (hr.mono (by decide)) (pv 0) (va_cons (ve_lst (va_cons ve_int (va_cons ve_int (va_cons ve_int (va_cons ve_int (va_cons ve_int (va_cons (ve_callM C__law_draw rfl (hr.mono (by decide)) (pv 0) (va_cons ve_int va_nil)) (va_cons ve_int va_nil)))))))) va_nil)))
    (vs_one (vs_app (pv 3) (ve_tup (va_cons (ve_ix rfl (ve_var (pv 2)) (ve_var (pv 4))) (va_cons (ve_ix rfl (ve_var (pv 1)) (ve_var (pv 4))) (va_cons (ve_var (pv 6)) (va_cons (ve_callT ca_tuple T.n_tuple bt_tuple (va_cons (ve_var (pv 5)) va_nil)) va_nil)))))))))))
    (vs_one (vs_ret (ve_callT ca_tuple T.n_tuple bt_tuple (va_cons (ve_var (pv 3)) va_nil)))))))
theorem ok_is_name (T : Txt G mg) {f : Addr} {fd : FuncData} (F : Fun G.K "is_name" "is_name" s_is_name f fd)  : FnOk P w G.K mg base CX0 1 f fd ["value"] (spV G 1 m_is_name) :=
  fn_ok F sc_is_name fun c cdv A outer sh H E hG hr => by
    subst hG
    exact (vs_cons (vs_if (PW.pt (vw_or (vt_not (vt_val (ve_isTy 2 (by decide) T.n_isinstance (ve_var (pv 0)) T.n_str bt_ty2))) (pw_or1 (vt_not (vt_chain od_le od_le ve_int (ve_callB (ca_len rfl) T.n_len bt_len (va_cons (ve_var (pv 0)) va_nil)) ve_int)))))
    (vs_one (vs_ret ve_bl)) vs_nil)
    (vs_one (vs_ret (ve_cmp (od_eqL hr.units) (ve_lc (own := [("letter", 1)]) (.nm 1) rfl sc_is_name.nd (vi_str (ve_var (pv 0))) (blkOk_by (N := N_is_name) (sc := defScope s_is_name) (by decide +kernel)) rfl (fun _ _ _ _ _ => (pg_name (i := 1) sc_is_name.nd rfl (Or.inl rfl))) (fun _ _ _ _ _ _ _ _ => (vts_one (vt_cmp od_notin (ve_var (pv 1)) (ve_glob T.g_LETTERS)))) (fun _ _ _ _ _ _ _ _ => (ve_var (pv 1)))) (ve_lst va_nil)))))
theorem ok_is_whole (T : Txt G mg) {f : Addr} {fd : FuncData} (F : Fun G.K "is_whole" "is_whole" s_is_whole f fd)  : FnOk P w G.K mg base CX0 1 f fd ["value"] (spV G 1 m_is_whole) :=
  fn_ok F sc_is_whole fun c cdv A outer sh H E hG hr => by
    subst hG
    exact (vs_one (vs_ret (ve_and (ve_isTy 1 (by decide) T.n_isinstance (ve_var (pv 0)) T.n_int bt_ty1) (ve_one (ve_not (ve_isTy 0 (by decide) T.n_isinstance (ve_var (pv 0)) T.n_bool bt_ty0))))))
theorem ok_are_names (T : Txt G mg) {f : Addr} {fd : FuncData} (F : Fun G.K "are_names" "are_names" s_are_names f fd) (C_is_name : Cal P w G mg base "is_name" 1 1 m_is_name) : FnOk P w G.K mg base CX0 2 f fd ["value"] (spV G 1 m_are_names) :=
  fn_ok F sc_are_names fun c cdv A outer sh H E hG hr => by
    subst hG
    exact (vs_cons (vs_if (PW.pt (vw_or (vt_not (vt_val (ve_isTy 3 (by decide) T.n_isinstance (ve_var (pv 0)) T.n_list bt_ty3))) (pw_or1 (vt_cmp (od_ne hr.units) (ve_lc (own := [("one", 1)]) (.nm 1) rfl sc_are_names.nd (vi_list (ve_var (pv 0))) (blkOk_by (N := N_are_names) (sc := defScope s_are_names) (by decide +kernel)) rfl (fun _ _ _ _ _ => (pg_name (i := 1) sc_are_names.nd rfl (Or.inl rfl))) (fun _ _ _ _ _ _ _ _ => (vts_one (vt_not (vt_val (ve_call C_is_name rfl (hr.mono (by decide)) (va_cons (ve_var (pv 1)) va_nil)))))) (fun _ _ _ _ _ _ _ _ => (ve_var (pv 1)))) (ve_lst va_nil)))))
    (vs_one (vs_ret ve_bl)) vs_nil)
    (vs_one (vs_ret (ve_cmp (od_eq hr.units) (ve_lenSet rfl T.n_len T.n_set (ve_var (pv 0))) (ve_callB (ca_len rfl) T.n_len bt_len (va_cons (ve_var (pv 0)) va_nil))))))
theorem ok_Step_init (T : Txt G mg) {f : Addr} {fd : FuncData} (F : Fun G.K "__init__" "Step.__init__" s_Step_init f fd) (C_is_name : Cal P w G mg base "is_name" 1 1 m_is_name) (C_is_whole : Cal P w G mg base "is_whole" 1 1 m_is_whole) (C_are_names : Cal P w G mg base "are_names" 2 1 m_are_names) : FnOk P w G.K mg base CX0 3 f fd ["self", "name", "period", "delay", "reads"] (spV G 5 m_Step_init) :=
  fn_ok F sc_Step_init fun c cdv A outer sh H E hG hr => by
    subst hG
    exact (vs_cons (vs_if (PW.pt (vw_or (vt_not (vt_val (ve_call C_is_name rfl (hr.mono (by decide)) (va_cons (ve_var (pv 1)) va_nil)))) (vw_or (vt_not (vt_val (ve_call C_is_whole rfl (hr.mono (by decide)) (va_cons (ve_var (pv 2)) va_nil)))) (vw_or (vt_not (vt_val (ve_call C_is_whole rfl (hr.mono (by decide)) (va_cons (ve_var (pv 3)) va_nil)))) (pw_or1 (vt_not (vt_val (ve_call C_are_names rfl (hr.mono (by decide)) (va_cons (ve_var (pv 4)) va_nil)))))))))
    (vs_one vs_never) vs_nil)
    (vs_cons (vs_if (PW.pt (vw_or (vt_cmp od_lt (ve_var (pv 2)) ve_int) (pw_or1 (vt_cmp od_lt (ve_var (pv 3)) ve_int))))
    (vs_one vs_never) vs_nil)
    (vs_cons (vs_self 0 0 (pv 0) (ve_var (pv 1)) T.c0.cl T.a0_label T.l0_label)
    (vs_cons (vs_self 0 1 (pv 0) (ve_var (pv 2)) T.c0.cl T.a0_turn T.l0_turn)
    (vs_cons (vs_self 0 2 (pv 0) (ve_var (pv 3)) T.c0.cl T.a0_lag T.l0_lag)
    (vs_one (vs_self 0 3 (pv 0) (ve_callT ca_tuple T.n_tuple bt_tuple (va_cons (ve_var (pv 4)) va_nil)) T.c0.cl T.a0_sources T.l0_sources)))))))
theorem ok_are_steps (T : Txt G mg) {f : Addr} {fd : FuncData} (F : Fun G.K "are_steps" "are_steps" s_are_steps f fd) (C_are_names : Cal P w G mg base "are_names" 2 1 m_are_names) : FnOk P w G.K mg base CX0 3 f fd ["value"] (spV G 1 m_are_steps) :=
  fn_ok F sc_are_steps fun c cdv A outer sh H E hG hr => by
    subst hG
    exact (vs_cons (vs_if (PW.pt (vw_or (vt_not (vt_val (ve_isTy 3 (by decide) T.n_isinstance (ve_var (pv 0)) T.n_list bt_ty3))) (vw_or (vt_cmp (od_eqL hr.units) (ve_var (pv 0)) (ve_lst va_nil)) (pw_or1 (vt_cmp (od_ne hr.units) (ve_lc (own := [("one", 3)]) (.nm 3) rfl sc_are_steps.nd (vi_list (ve_var (pv 0))) (blkOk_by (N := N_are_steps) (sc := defScope s_are_steps) (by decide +kernel)) rfl (fun _ _ _ _ _ => (pg_name (i := 3) sc_are_steps.nd rfl (Or.inl rfl))) (fun _ _ _ _ _ _ _ _ => (vts_one (vt_not (vt_val (ve_isC 0 T.n_isinstance (ve_var (pv 3)) T.g0 T.c0))))) (fun _ _ _ _ _ _ _ _ => (ve_var (pv 3)))) (ve_lst va_nil))))))
    (vs_one (vs_ret ve_bl)) vs_nil)
    (vs_cons (vs_set (i := 1) sc_are_steps.nd (ve_lc (own := [("step", 2)]) (.nm 2) rfl sc_are_steps.nd (vi_list (ve_var (pv 0))) (blkOk_by (N := N_are_steps) (sc := defScope s_are_steps) (by decide +kernel)) rfl (fun _ _ _ _ _ => (pg_name (i := 2) sc_are_steps.nd rfl (Or.inl rfl))) (fun _ _ _ _ _ _ _ _ => vts_nil) (fun _ _ _ _ _ _ _ _ => (ve_fld 0 0 (ve_var (pv 2)) T.c0.cl T.a0_label T.l0_label))))
    (vs_cons (vs_if (vt_not (vt_val (ve_call C_are_names rfl (hr.mono (by decide)) (va_cons (ve_var (pv 1)) va_nil))))
    (vs_one (vs_ret ve_bl)) vs_nil)
    (vs_cons (vs_for (t := (.nm 2)) PassesOwn.never rfl (vi_list (ve_var (pv 0))) (pg_name (i := 2) sc_are_steps.nd rfl (Or.inl rfl))
    (vs_one (vs_if (vt_cmp (od_ne hr.units) (ve_lc (own := [("name", 4)]) (.nm 4) rfl sc_are_steps.nd (vi_tup (ve_fld 0 3 (ve_var (pv 2)) T.c0.cl T.a0_sources T.l0_sources)) (blkOk_by (N := N_are_steps) (sc := defScope s_are_steps) (by decide +kernel)) rfl (fun _ _ _ _ _ => (pg_name (i := 4) sc_are_steps.nd rfl (Or.inl rfl))) (fun _ _ _ _ _ _ _ _ => (vts_one (vt_cmp od_notin (ve_var (pv 4)) (ve_var (pv 1))))) (fun _ _ _ _ _ _ _ _ => (ve_var (pv 4)))) (ve_lst va_nil))
    (vs_one (vs_ret ve_bl)) vs_nil)))
    (vs_one (vs_ret ve_bl))))))
theorem ok_Net_init (T : Txt G mg) {f : Addr} {fd : FuncData} (F : Fun G.K "__init__" "Net.__init__" s_Net_init f fd) (C_are_steps : Cal P w G mg base "are_steps" 3 1 m_are_steps) : FnOk P w G.K mg base CX0 4 f fd ["self", "steps"] (spV G 2 m_Net_init) :=
  fn_ok F sc_Net_init fun c cdv A outer sh H E hG hr => by
    subst hG
    exact (vs_cons (vs_if (vt_not (vt_val (ve_call C_are_steps rfl (hr.mono (by decide)) (va_cons (ve_var (pv 1)) va_nil))))
    (vs_one vs_never) vs_nil)
    (vs_one (vs_self 1 0 (pv 0) (ve_callT ca_tuple T.n_tuple bt_tuple (va_cons (ve_var (pv 1)) va_nil)) T.c1.cl T.a1_nodes T.l1_nodes)))
theorem ok_law_made (T : Txt G mg) {f : Addr} {fd : FuncData} (F : Fun G.K "_law_made" "_law_made" s_law_made f fd) (C_Step : CalC P w G mg base "Step" 3 5 0 m_Step_init) (C_Net : CalC P w G mg base "Net" 4 2 1 m_Net_init) : FnOk P w G.K mg base CX0 6 f fd ["_law_net_here"] (spV G 1 m_law_made) :=
  fn_ok F sc_law_made fun c cdv A outer sh H E hG hr => by
    subst hG
    exact (vs_one (vs_ret (ve_make C_Net T.nf1 rfl (hr.mono (by decide)) (va_cons (ve_lc (own := [("_law_name", 1), ("_law_period", 2), ("_law_delay", 3), ("_law_reads", 4)]) (.tp [1, 2, 3, 4]) rfl sc_law_made.nd (vi_tup (ve_var (pv 0))) (blkOk_by (N := N_law_made) (sc := defScope s_law_made) (by decide +kernel)) rfl (fun _ _ _ _ _ => (pg_tup rfl (pgs_cons (pg_name (i := 1) sc_law_made.nd rfl (Or.inl rfl)) (pgs_cons (pg_name (i := 2) sc_law_made.nd rfl (Or.inl rfl)) (pgs_cons (pg_name (i := 3) sc_law_made.nd rfl (Or.inl rfl)) (pgs_cons (pg_name (i := 4) sc_law_made.nd rfl (Or.inl rfl)) pgs_nil)))))) (fun _ _ _ _ _ _ _ _ => vts_nil) (fun _ _ _ _ _ _ _ _ => (ve_make C_Step T.nf0 rfl (hr.mono (by decide)) (va_cons (ve_var (pv 1)) (va_cons (ve_var (pv 2)) (va_cons (ve_var (pv 3)) (va_cons (ve_callT ca_list T.n_list bt_list (va_cons (ve_var (pv 4)) va_nil)) va_nil))))))) va_nil))))
theorem ok_law_phases (T : Txt G mg) {f : Addr} {fd : FuncData} (F : Fun G.K "_law_phases" "_law_phases" s_law_phases f fd) (C__law_pick : Cal P w G mg base "_law_pick" 2 2 m_law_pick) (C__law_draw : Cal P w G mg base "_law_draw" 1 2 m_law_draw) : FnOk P w G.K mg base CX0 3 f fd ["_law_purse_here", "_law_net_here"] (spV G 2 m_law_phases) :=
  fn_ok F sc_law_phases fun c cdv A outer sh H E hG hr => by
    subst hG
    exact (vs_cons (vs_parL (i := 2) (j := 3) rfl sc_law_phases.nd va_nil (fun _ _ _ => (ve_callM C__law_pick rfl (hr.mono (by decide)) (pv 0) (va_cons (ve_lst (va_cons ve_int (va_cons ve_int (va_cons ve_int (va_cons ve_int (va_cons ve_int (va_cons ve_int (va_cons ve_int va_nil)))))))) va_nil))) rfl)
    (vs_cons (vs_for (t := (.tp [4, 5, 6, 7])) PassesOwn.never rfl (vi_tup (ve_var (pv 1))) (pg_tup rfl (pgs_cons (pg_name (i := 4) sc_law_phases.nd rfl (Or.inl rfl)) (pgs_cons (pg_name (i := 5) sc_law_phases.nd rfl (Or.inl rfl)) (pgs_cons (pg_name (i := 6) sc_law_phases.nd rfl (Or.inl rfl)) (pgs_cons (pg_name (i := 7) sc_law_phases.nd rfl (Or.inl rfl)) pgs_nil)))))
    (vs_cons (vs_set (i := 8) sc_law_phases.nd (ve_op od_sub (ve_callM C__law_draw rfl (hr.mono (by decide)) (pv 0) (va_cons (ve_op od_mul (ve_op od_mul ve_int (ve_var (pv 5))) (ve_var (pv 3))) va_nil)) (ve_callM C__law_pick rfl (hr.mono (by decide)) (pv 0) (va_cons (ve_lst (va_cons ve_int (va_cons ve_int (va_cons (ve_op od_mul (ve_var (pv 5)) (ve_var (pv 3))) va_nil)))) va_nil))))
    (vs_cons (vs_app (pv 2) (ve_tup (va_cons (ve_var (pv 8)) (va_cons (ve_var (pv 3)) va_nil))))
    (vs_cons (vs_if (vt_cmp (od_eq hr.units) (ve_callM C__law_draw rfl (hr.mono (by decide)) (pv 0) (va_cons ve_int va_nil)) ve_int)
    (vs_one (vs_put (pv 2) (ve_neg ve_int) (ve_tup (va_cons (ve_callM C__law_draw rfl (hr.mono (by decide)) (pv 0) (va_cons (ve_op od_mul ve_int (ve_var (pv 5))) va_nil)) (va_cons ve_int va_nil))))) vs_nil)
    (vs_one (vs_if (vt_cmp (od_eq hr.units) (ve_callM C__law_draw rfl (hr.mono (by decide)) (pv 0) (va_cons ve_int va_nil)) ve_int)
    (vs_one (vs_put (pv 2) (ve_neg ve_int) (ve_tup (va_cons (ve_op od_mul (ve_ix rfl (ve_ixM (pv 2) (ve_neg ve_int)) ve_int) ve_int) (va_cons (ve_op od_mul (ve_ix rfl (ve_ixM (pv 2) (ve_neg ve_int)) ve_int) ve_int) va_nil))))) vs_nil))))))
    (vs_one (vs_ret (ve_callT ca_tuple T.n_tuple bt_tuple (va_cons (ve_var (pv 2)) va_nil))))))
theorem ok_law_path (T : Txt G mg) {f : Addr} {fd : FuncData} (F : Fun G.K "_law_path" "_law_path" s_law_path f fd) (C__law_draw : Cal P w G mg base "_law_draw" 1 2 m_law_draw) (C__law_pick : Cal P w G mg base "_law_pick" 2 2 m_law_pick) : FnOk P w G.K mg base CX0 3 f fd ["_law_purse_here", "_law_net_here"] (spV G 2 m_law_path) :=
  fn_ok F sc_law_path fun c cdv A outer sh H E hG hr => by
    subst hG
    exact (vs_cons (vs_own (i := 2) sc_law_path.nd (va_cons (ve_callM C__law_draw rfl (hr.mono (by decide)) (pv 0) (va_cons (ve_callB (ca_len rfl) T.n_len bt_len (va_cons (ve_var (pv 1)) va_nil)) va_nil)) va_nil))
    (vs_cons (vs_for (t := (.nm 3)) PassesOwn.never rfl (vi_range1 T.n_range (va_cons (ve_callM C__law_pick rfl (hr.mono (by decide)) (pv 0) (va_cons (ve_lst (va_cons ve_int (va_cons ve_int (va_cons ve_int (va_cons ve_int (va_cons ve_int (va_cons ve_int (va_cons ve_int va_nil)))))))) va_nil)) va_nil)) (pg_name (i := 3) sc_law_path.nd rfl (Or.inl rfl))
    (vs_cons (vs_setLc (i := 4) (own := [("_law_at", 5)]) (.nm 5) rfl sc_law_path.nd (vi_range1 T.n_range (va_cons (ve_callB (ca_len rfl) T.n_len bt_len (va_cons (ve_var (pv 1)) va_nil)) va_nil)) (blkOk_by (N := N_law_path) (sc := defScope s_law_path) (by decide +kernel)) rfl (fun _ _ _ _ _ => (pg_name (i := 5) sc_law_path.nd rfl (Or.inl rfl))) (fun _ _ _ _ _ _ _ _ => (vts_one (vt_cmp od_in (ve_ix rfl (ve_ix rfl (ve_var (pv 1)) (ve_ixM (pv 2) (ve_neg ve_int))) ve_int) (ve_ix rfl (ve_ix rfl (ve_var (pv 1)) (ve_var (pv 5))) ve_int)))) (fun _ _ _ _ _ _ _ _ => (ve_var (pv 5))) (sw_true rfl rfl rfl (by decide +kernel)))
    (vs_one (vs_if (vt_cmp (od_ne hr.units) (ve_var (pv 4)) (ve_lst va_nil))
    (vs_one (vs_app (pv 2) (ve_callM C__law_pick rfl (hr.mono (by decide)) (pv 0) (va_cons (ve_var (pv 4)) va_nil)))) vs_nil))))
    (vs_one (vs_ret (ve_var (pv 2))))))
theorem ok_law_common (T : Txt G mg) {f : Addr} {fd : FuncData} (F : Fun G.K "_law_common" "_law_common" s_law_common f fd)  : FnOk P w G.K mg base CX0 1 f fd ["_law_numbers"] (spV G 1 m_law_common) :=
  fn_ok F sc_law_common fun c cdv A outer sh H E hG hr => by
    subst hG
    exact (vs_cons (vs_set (i := 1) sc_law_common.nd ve_int)
    (vs_cons (vs_for (t := (.nm 2)) PassesOwn.never rfl (vi_list (ve_var (pv 0))) (pg_name (i := 2) sc_law_common.nd rfl (Or.inl rfl))
    (vs_cons (vs_par2 (i := 3) (j := 4) rfl sc_law_common.nd (va_cons (ve_var (pv 1)) (va_cons (ve_var (pv 2)) va_nil)) rfl)
    (vs_cons (vs_while (fuelI 4) PassesOwn.never (vt_cmp od_gt (ve_var (pv 4)) ve_int)
    (vs_one (vs_par2 (i := 3) (j := 4) rfl sc_law_common.nd (va_cons (ve_var (pv 4)) (va_cons (ve_op od_mod (ve_callT ca_int T.n_int bt_int (va_cons (ve_var (pv 3)) va_nil)) (ve_callT ca_int T.n_int bt_int (va_cons (ve_var (pv 4)) va_nil))) va_nil)) rfl)))
    (vs_one (vs_set (i := 1) sc_law_common.nd (ve_op od_mul (ve_op od_fdiv (ve_var (pv 1)) (ve_var (pv 3))) (ve_var (pv 2))))))))
    (vs_one (vs_ret (ve_var (pv 1))))))
theorem ok_law_units (T : Txt G mg) {f : Addr} {fd : FuncData} (F : Fun G.K "_law_units" "_law_units" s_law_units f fd) (C__law_common : Cal P w G mg base "_law_common" 1 1 m_law_common) : FnOk P w G.K mg base CX0 2 f fd ["_law_phases_here"] (spV G 1 m_law_units) :=
  fn_ok F sc_law_units fun c cdv A outer sh H E hG hr => by
    subst hG
    exact (vs_cons (vs_set (i := 1) sc_law_units.nd (ve_call C__law_common rfl (hr.mono (by decide)) (va_cons (ve_lc (own := [("_law_number", 2), ("_law_total", 3)]) (.tp [2, 3]) rfl sc_law_units.nd (vi_tup (ve_var (pv 0))) (blkOk_by (N := N_law_units) (sc := defScope s_law_units) (by decide +kernel)) rfl (fun _ _ _ _ _ => (pg_tup rfl (pgs_cons (pg_name (i := 2) sc_law_units.nd rfl (Or.inl rfl)) (pgs_cons (pg_name (i := 3) sc_law_units.nd rfl (Or.inl rfl)) pgs_nil)))) (fun _ _ _ _ _ _ _ _ => vts_nil) (fun _ _ _ _ _ _ _ _ => (ve_var (pv 3)))) va_nil)))
    (vs_one (vs_ret (ve_tup (va_cons (ve_lc (own := [("_law_number", 2), ("_law_total", 3)]) (.tp [2, 3]) rfl sc_law_units.nd (vi_tup (ve_var (pv 0))) (blkOk_by (N := N_law_units) (sc := defScope s_law_units) (by decide +kernel)) rfl (fun _ _ _ _ _ => (pg_tup rfl (pgs_cons (pg_name (i := 2) sc_law_units.nd rfl (Or.inl rfl)) (pgs_cons (pg_name (i := 3) sc_law_units.nd rfl (Or.inl rfl)) pgs_nil)))) (fun _ _ _ _ _ _ _ _ => vts_nil) (fun _ _ _ _ _ _ _ _ => (ve_op od_mul (ve_var (pv 2)) (ve_op od_fdiv (ve_var (pv 1)) (ve_var (pv 3)))))) (va_cons (ve_var (pv 1)) va_nil))))))
theorem ok_law_all_runs_turn (T : Txt G mg) {f : Addr} {fd : FuncData} (F : Fun G.K "_law_all_runs_turn" "_law_all_runs_turn" s_law_all_runs_turn f fd) (C__law_common : Cal P w G mg base "_law_common" 1 1 m_law_common) : FnOk P w G.K mg base CX0 2 f fd ["_law_net_here"] (spV G 1 m_law_all_runs_turn) :=
  fn_ok F sc_law_all_runs_turn fun c cdv A outer sh H E hG hr => by
    subst hG
    exact (vs_one (vs_ret (ve_call C__law_common rfl (hr.mono (by decide)) (va_cons (ve_lc (own := [("_law_name", 1), ("_law_period", 2), ("_law_delay", 3), ("_law_reads", 4)]) (.tp [1, 2, 3, 4]) rfl sc_law_all_runs_turn.nd (vi_tup (ve_var (pv 0))) (blkOk_by (N := N_law_all_runs_turn) (sc := defScope s_law_all_runs_turn) (by decide +kernel)) rfl (fun _ _ _ _ _ => (pg_tup rfl (pgs_cons (pg_name (i := 1) sc_law_all_runs_turn.nd rfl (Or.inl rfl)) (pgs_cons (pg_name (i := 2) sc_law_all_runs_turn.nd rfl (Or.inl rfl)) (pgs_cons (pg_name (i := 3) sc_law_all_runs_turn.nd rfl (Or.inl rfl)) (pgs_cons (pg_name (i := 4) sc_law_all_runs_turn.nd rfl (Or.inl rfl)) pgs_nil)))))) (fun _ _ _ _ _ _ _ _ => vts_nil) (fun _ _ _ _ _ _ _ _ => (ve_var (pv 2)))) va_nil))))
theorem ok_law_began (T : Txt G mg) {f : Addr} {fd : FuncData} (F : Fun G.K "_law_began" "_law_began" s_law_began f fd)  : FnOk P w G.K mg base CX0 1 f fd ["_law_net_here", "_law_units_here", "_law_at", "_law_run_here"] (spV G 4 m_law_began) :=
  fn_ok F sc_law_began fun c cdv A outer sh H E hG hr => by
    subst hG
    exact (vs_one (vs_ret (ve_op od_add (ve_ix rfl (ve_ix rfl (ve_var (pv 1)) ve_int) (ve_var (pv 2))) (ve_op od_mul (ve_op od_mul (ve_var (pv 3)) (ve_ix rfl (ve_ix rfl (ve_var (pv 0)) (ve_var (pv 2))) ve_int)) (ve_ix rfl (ve_var (pv 1)) ve_int)))))
theorem ok_law_wrote (T : Txt G mg) {f : Addr} {fd : FuncData} (F : Fun G.K "_law_wrote" "_law_wrote" s_law_wrote f fd) (C__law_began : Cal P w G mg base "_law_began" 1 4 m_law_began) : FnOk P w G.K mg base CX0 2 f fd ["_law_net_here", "_law_units_here", "_law_at", "_law_run_here"] (spV G 4 m_law_wrote) :=
  fn_ok F sc_law_wrote fun c cdv A outer sh H E hG hr => by
    subst hG
    exact (vs_one (vs_ret (ve_op od_add (ve_call C__law_began rfl (hr.mono (by decide)) (va_cons (ve_var (pv 0)) (va_cons (ve_var (pv 1)) (va_cons (ve_var (pv 2)) (va_cons (ve_var (pv 3)) va_nil))))) (ve_op od_mul (ve_ix rfl (ve_ix rfl (ve_var (pv 0)) (ve_var (pv 2))) ve_int) (ve_ix rfl (ve_var (pv 1)) ve_int)))))
theorem ok_law_newest (T : Txt G mg) {f : Addr} {fd : FuncData} (F : Fun G.K "_law_newest" "_law_newest" s_law_newest f fd) (C__law_began : Cal P w G mg base "_law_began" 1 4 m_law_began) (C__law_wrote : Cal P w G mg base "_law_wrote" 2 4 m_law_wrote) : FnOk P w G.K mg base CX0 3 f fd ["_law_net_here", "_law_units_here", "_law_reader", "_law_source", "_law_run_here"] (spV G 5 m_law_newest) :=
  fn_ok F sc_law_newest fun c cdv A outer sh H E hG hr => by
    subst hG
    exact (vs_cons (vs_par2 (i := 5) (j := 6) rfl sc_law_newest.nd (va_cons (ve_call C__law_began rfl (hr.mono (by decide)) (va_cons (ve_var (pv 0)) (va_cons (ve_var (pv 1)) (va_cons (ve_var (pv 2)) (va_cons (ve_var (pv 4)) va_nil))))) (va_cons (ve_op od_mul (ve_ix rfl (ve_ix rfl (ve_var (pv 0)) (ve_var (pv 3))) ve_int) (ve_ix rfl (ve_var (pv 1)) ve_int)) va_nil)) rfl)
    (vs_cons (vs_set (i := 7) sc_law_newest.nd (ve_op od_fdiv (ve_op od_sub (ve_var (pv 5)) (ve_call C__law_wrote rfl (hr.mono (by decide)) (va_cons (ve_var (pv 0)) (va_cons (ve_var (pv 1)) (va_cons (ve_var (pv 3)) (va_cons ve_int va_nil)))))) (ve_var (pv 6))))
    (vs_one (vs_ret (ve_var (pv 7))))))
theorem ok_law_carried (T : Txt G mg) {f : Addr} {fd : FuncData} (F : Fun G.K "_law_carried" "_law_carried" s_law_carried f fd) (C__law_newest : Cal P w G mg base "_law_newest" 3 5 m_law_newest) : FnOk P w G.K mg base CX0 4 f fd ["_law_net_here", "_law_units_here", "_law_places", "_law_run_here"] (spV G 4 m_law_carried) :=
  fn_ok F sc_law_carried fun c cdv A outer sh H E hG hr => by
    subst hG
    exact (vs_cons (vs_for (t := (.nm 4)) PassesOwn.never rfl (vi_rangeD T.n_range (va_cons (ve_op od_sub (ve_callB (ca_len rfl) T.n_len bt_len (va_cons (ve_var (pv 2)) va_nil)) ve_int) (va_cons ve_int (va_cons (ve_op od_sub ve_int ve_int) va_nil)))) (pg_name (i := 4) sc_law_carried.nd rfl (Or.inl rfl))
    (vs_one (vs_set (i := 3) sc_law_carried.nd (ve_call C__law_newest rfl (hr.mono (by decide)) (va_cons (ve_var (pv 0)) (va_cons (ve_var (pv 1)) (va_cons (ve_ix rfl (ve_var (pv 2)) (ve_var (pv 4))) (va_cons (ve_ix rfl (ve_var (pv 2)) (ve_op od_sub (ve_var (pv 4)) ve_int)) (va_cons (ve_var (pv 3)) va_nil)))))))))
    (vs_one (vs_ret (ve_var (pv 3)))))
theorem ok_law_first_that_carries (T : Txt G mg) {f : Addr} {fd : FuncData} (F : Fun G.K "_law_first_that_carries" "_law_first_that_carries" s_law_first_that_carries f fd) (C__law_began : Cal P w G mg base "_law_began" 1 4 m_law_began) (C__law_carried : Cal P w G mg base "_law_carried" 4 4 m_law_carried) : FnOk P w G.K mg base CX0 5 f fd ["_law_net_here", "_law_units_here", "_law_places", "_law_source"] (spV G 4 m_law_first_that_carries) :=
  fn_ok F sc_law_first_that_carries fun c cdv A outer sh H E hG hr => by
    subst hG
    exact (vs_cons (vs_set (i := 4) sc_law_first_that_carries.nd (ve_op od_mul (ve_ix rfl (ve_ix rfl (ve_var (pv 0)) (ve_ix rfl (ve_var (pv 2)) (ve_neg ve_int))) ve_int) (ve_ix rfl (ve_var (pv 1)) ve_int)))
    (vs_cons (vs_set (i := 5) sc_law_first_that_carries.nd (ve_op od_sub (ve_op od_fdiv (ve_op od_sub (ve_call C__law_began rfl (hr.mono (by decide)) (va_cons (ve_var (pv 0)) (va_cons (ve_var (pv 1)) (va_cons (ve_ix rfl (ve_var (pv 2)) ve_int) (va_cons (ve_var (pv 3)) va_nil))))) (ve_ix rfl (ve_ix rfl (ve_var (pv 1)) ve_int) (ve_ix rfl (ve_var (pv 2)) (ve_neg ve_int)))) (ve_var (pv 4))) ve_int))
    (vs_cons (vs_for (t := (.nm 6)) PassesOwn.never rfl (vi_range1 T.n_range (va_cons ve_int va_nil)) (pg_name (i := 6) sc_law_first_that_carries.nd rfl (Or.inl rfl))
    (vs_cons (vs_if (vt_cmp od_ge (ve_call C__law_carried rfl (hr.mono (by decide)) (va_cons (ve_var (pv 0)) (va_cons (ve_var (pv 1)) (va_cons (ve_var (pv 2)) (va_cons (ve_var (pv 5)) va_nil))))) (ve_var (pv 3)))
    (vs_one (vs_ret (ve_var (pv 5)))) vs_nil)
    (vs_one (vs_set (i := 5) sc_law_first_that_carries.nd (ve_op od_add (ve_var (pv 5)) ve_int)))))
    (vs_one (vs_ret ve_non)))))
theorem ok_law_wait (T : Txt G mg) {f : Addr} {fd : FuncData} (F : Fun G.K "_law_wait" "_law_wait" s_law_wait f fd) (C__law_first_that_carries : Cal P w G mg base "_law_first_that_carries" 5 4 m_law_first_that_carries) (C__law_wrote : Cal P w G mg base "_law_wrote" 2 4 m_law_wrote) (C__law_began : Cal P w G mg base "_law_began" 1 4 m_law_began) : FnOk P w G.K mg base CX0 6 f fd ["_law_net_here", "_law_units_here", "_law_places", "_law_source"] (spV G 4 m_law_wait) :=
  fn_ok F sc_law_wait fun c cdv A outer sh H E hG hr => by
    subst hG
    exact (vs_cons (vs_set (i := 4) sc_law_wait.nd (ve_call C__law_first_that_carries rfl (hr.mono (by decide)) (va_cons (ve_var (pv 0)) (va_cons (ve_var (pv 1)) (va_cons (ve_var (pv 2)) (va_cons (ve_op od_add (ve_var (pv 3)) ve_int) va_nil))))))
    (vs_one (vs_ret (ve_op od_sub (ve_call C__law_wrote rfl (hr.mono (by decide)) (va_cons (ve_var (pv 0)) (va_cons (ve_var (pv 1)) (va_cons (ve_ix rfl (ve_var (pv 2)) (ve_neg ve_int)) (va_cons (ve_var (pv 4)) va_nil))))) (ve_call C__law_began rfl (hr.mono (by decide)) (va_cons (ve_var (pv 0)) (va_cons (ve_var (pv 1)) (va_cons (ve_ix rfl (ve_var (pv 2)) ve_int) (va_cons (ve_var (pv 3)) va_nil)))))))))
theorem ok_law_named (T : Txt G mg) {f : Addr} {fd : FuncData} (F : Fun G.K "_law_named" "_law_named" s_law_named f fd)  : FnOk P w G.K mg base CX0 1 f fd ["_law_net_here", "_law_places"] (spV G 2 m_law_named) :=
  fn_ok F sc_law_named fun c cdv A outer sh H E hG hr => by
    subst hG
    exact (vs_one (vs_ret (ve_lc (own := [("_law_at", 2)]) (.nm 2) rfl sc_law_named.nd (vi_list (ve_var (pv 1))) (blkOk_by (N := N_law_named) (sc := defScope s_law_named) (by decide +kernel)) rfl (fun _ _ _ _ _ => (pg_name (i := 2) sc_law_named.nd rfl (Or.inl rfl))) (fun _ _ _ _ _ _ _ _ => vts_nil) (fun _ _ _ _ _ _ _ _ => (ve_ix rfl (ve_ix rfl (ve_var (pv 0)) (ve_var (pv 2))) ve_int)))))
theorem ok_check_net (T : Txt G mg) {f : Addr} {fd : FuncData} (F : Fun G.K "check_net" "check_net" s_check_net f fd)  : FnOk P w G.K mg base CX0 1 f fd ["value"] (spV G 1 m_check_net) :=
  fn_ok F sc_check_net fun c cdv A outer sh H E hG hr => by
    subst hG
    exact (vs_one (vs_if (vt_not (vt_val (ve_isC 1 T.n_isinstance (ve_var (pv 0)) T.g1 T.c1)))
    (vs_one vs_never) vs_nil))
theorem ok_is_fraction (T : Txt G mg) {f : Addr} {fd : FuncData} (F : Fun G.K "is_fraction" "is_fraction" s_is_fraction f fd) (C_is_whole : Cal P w G mg base "is_whole" 1 1 m_is_whole) : FnOk P w G.K mg base CX0 2 f fd ["value"] (spV G 1 m_is_fraction) :=
  fn_ok F sc_is_fraction fun c cdv A outer sh H E hG hr => by
    subst hG
    exact (vs_cons (vs_if (PW.pt (vw_or (vt_not (vt_val (ve_isTy 4 (by decide) T.n_isinstance (ve_var (pv 0)) T.n_tuple bt_ty4))) (vw_or (vt_cmp (od_ne hr.units) (ve_callB (ca_len rfl) T.n_len bt_len (va_cons (ve_var (pv 0)) va_nil)) ve_int) (pw_or1 (vt_cmp (od_ne hr.units) (ve_lc (own := [("one", 1)]) (.nm 1) rfl sc_is_fraction.nd (vi_tup (ve_var (pv 0))) (blkOk_by (N := N_is_fraction) (sc := defScope s_is_fraction) (by decide +kernel)) rfl (fun _ _ _ _ _ => (pg_name (i := 1) sc_is_fraction.nd rfl (Or.inl rfl))) (fun _ _ _ _ _ _ _ _ => (vts_one (vt_not (vt_val (ve_call C_is_whole rfl (hr.mono (by decide)) (va_cons (ve_var (pv 1)) va_nil)))))) (fun _ _ _ _ _ _ _ _ => (ve_var (pv 1)))) (ve_lst va_nil))))))
    (vs_one (vs_ret ve_bl)) vs_nil)
    (vs_one (vs_ret (ve_cmp od_ge (ve_ix rfl (ve_var (pv 0)) ve_int) ve_int))))
theorem ok_check_phases (T : Txt G mg) {f : Addr} {fd : FuncData} (F : Fun G.K "check_phases" "check_phases" s_check_phases f fd) (C_is_fraction : Cal P w G mg base "is_fraction" 2 1 m_is_fraction) : FnOk P w G.K mg base CX0 3 f fd ["net", "value"] (spV G 2 m_check_phases) :=
  fn_ok F sc_check_phases fun c cdv A outer sh H E hG hr => by
    subst hG
    exact (vs_cons (vs_if (PW.pt (vw_or (vt_not (vt_val (ve_isTy 4 (by decide) T.n_isinstance (ve_var (pv 1)) T.n_tuple bt_ty4))) (pw_or1 (vt_cmp (od_ne hr.units) (ve_callB (ca_len rfl) T.n_len bt_len (va_cons (ve_var (pv 1)) va_nil)) (ve_callB (ca_len rfl) T.n_len bt_len (va_cons (ve_fld 1 0 (ve_var (pv 0)) T.c1.cl T.a1_nodes T.l1_nodes) va_nil))))))
    (vs_one vs_never) vs_nil)
    (vs_one (vs_if (vt_cmp (od_ne hr.units) (ve_lc (own := [("one", 2)]) (.nm 2) rfl sc_check_phases.nd (vi_tup (ve_var (pv 1))) (blkOk_by (N := N_check_phases) (sc := defScope s_check_phases) (by decide +kernel)) rfl (fun _ _ _ _ _ => (pg_name (i := 2) sc_check_phases.nd rfl (Or.inl rfl))) (fun _ _ _ _ _ _ _ _ => (vts_one (vt_not (vt_val (ve_call C_is_fraction rfl (hr.mono (by decide)) (va_cons (ve_var (pv 2)) va_nil)))))) (fun _ _ _ _ _ _ _ _ => (ve_var (pv 2)))) (ve_lst va_nil))
    (vs_one vs_never) vs_nil)))
theorem ok_check_net_and_phases (T : Txt G mg) {f : Addr} {fd : FuncData} (F : Fun G.K "check_net_and_phases" "check_net_and_phases" s_check_net_and_phases f fd) (C_check_net : Cal P w G mg base "check_net" 1 1 m_check_net) (C_check_phases : Cal P w G mg base "check_phases" 3 2 m_check_phases) : FnOk P w G.K mg base CX0 4 f fd ["net", "phases"] (spV G 2 m_check_net_and_phases) :=
  fn_ok F sc_check_net_and_phases fun c cdv A outer sh H E hG hr => by
    subst hG
    exact (vs_cons (vs_drop (ve_call C_check_net rfl (hr.mono (by decide)) (va_cons (ve_var (pv 0)) va_nil)))
    (vs_one (vs_drop (ve_call C_check_phases rfl (hr.mono (by decide)) (va_cons (ve_var (pv 0)) (va_cons (ve_var (pv 1)) va_nil))))))
theorem ok_place_of (T : Txt G mg) {f : Addr} {fd : FuncData} (F : Fun G.K "place_of" "place_of" s_place_of f fd)  : FnOk P w G.K mg base CX0 1 f fd ["net", "name"] (spV G 2 m_place_of) :=
  fn_ok F sc_place_of fun c cdv A outer sh H E hG hr => by
    subst hG
    exact (vs_cons (vs_if (vt_not (vt_val (ve_isTy 2 (by decide) T.n_isinstance (ve_var (pv 1)) T.n_str bt_ty2)))
    (vs_one (vs_ret ve_non)) vs_nil)
    (vs_cons (vs_for (t := (.tp [2, 3])) PassesOwn.never rfl (vi_enumT T.n_enumerate (va_cons (ve_fld 1 0 (ve_var (pv 0)) T.c1.cl T.a1_nodes T.l1_nodes) va_nil)) (pg_tup rfl (pgs_cons (pg_name (i := 2) sc_place_of.nd rfl (Or.inl rfl)) (pgs_cons (pg_name (i := 3) sc_place_of.nd rfl (Or.inl rfl)) pgs_nil)))
    (vs_one (vs_if (vt_cmp (od_eq hr.units) (ve_fld 0 0 (ve_var (pv 3)) T.c0.cl T.a0_label T.l0_label) (ve_var (pv 1)))
    (vs_one (vs_ret (ve_var (pv 2)))) vs_nil)))
    (vs_one (vs_ret ve_non))))
theorem ok_check_path (T : Txt G mg) {f : Addr} {fd : FuncData} (F : Fun G.K "check_path" "check_path" s_check_path f fd) (C_place_of : Cal P w G mg base "place_of" 1 2 m_place_of) : FnOk P w G.K mg base CX0 2 f fd ["net", "value"] (spV G 2 m_check_path) :=
  fn_ok F sc_check_path fun c cdv A outer sh H E hG hr => by
    subst hG
    exact (vs_cons (vs_if (PW.pt (vw_or (vt_not (vt_val (ve_isTy 3 (by decide) T.n_isinstance (ve_var (pv 1)) T.n_list bt_ty3))) (vw_or (vt_cmp (od_eqL hr.units) (ve_var (pv 1)) (ve_lst va_nil)) (pw_or1 (vt_cmp (od_ne hr.units) (ve_lc (own := [("one", 2)]) (.nm 2) rfl sc_check_path.nd (vi_list (ve_var (pv 1))) (blkOk_by (N := N_check_path) (sc := defScope s_check_path) (by decide +kernel)) rfl (fun _ _ _ _ _ => (pg_name (i := 2) sc_check_path.nd rfl (Or.inl rfl))) (fun _ _ _ _ _ _ _ _ => (vts_one (vt_isN (ve_call C_place_of rfl (hr.mono (by decide)) (va_cons (ve_var (pv 0)) (va_cons (ve_var (pv 2)) va_nil)))))) (fun _ _ _ _ _ _ _ _ => (ve_var (pv 2)))) (ve_lst va_nil))))))
    (vs_one vs_never) vs_nil)
    (vs_one (vs_for (t := (.tp [2, 3])) PassesOwn.never rfl (vi_zip T.n_zip (va_cons (ve_var (pv 1)) (va_cons (ve_slice (ve_var (pv 1)) (vo_some ve_int) vo_none) va_nil))) (pg_tup rfl (pgs_cons (pg_name (i := 2) sc_check_path.nd rfl (Or.inl rfl)) (pgs_cons (pg_name (i := 3) sc_check_path.nd rfl (Or.inl rfl)) pgs_nil)))
    (vs_one (vs_if (vt_cmp od_notin (ve_var (pv 2)) (ve_fld 0 3 (ve_ix rfl (ve_fld 1 0 (ve_var (pv 0)) T.c1.cl T.a1_nodes T.l1_nodes) (ve_call C_place_of rfl (hr.mono (by decide)) (va_cons (ve_var (pv 0)) (va_cons (ve_var (pv 3)) va_nil)))) T.c0.cl T.a0_sources T.l0_sources))
    (vs_one vs_never) vs_nil)))))
theorem ok_common_divisor (T : Txt G mg) {f : Addr} {fd : FuncData} (F : Fun G.K "common_divisor" "common_divisor" s_common_divisor f fd)  : FnOk P w G.K mg base CX0 1 f fd ["one", "other"] (spV G 2 m_common_divisor) :=
  fn_ok F sc_common_divisor fun c cdv A outer sh H E hG hr => by
    subst hG
    exact (vs_cons (vs_while (fuelI 1) PassesOwn.never (vt_cmp (od_ne hr.units) (ve_var (pv 1)) ve_int)
    (vs_one (vs_par2 (i := 0) (j := 1) rfl sc_common_divisor.nd (va_cons (ve_var (pv 1)) (va_cons (ve_op od_mod (ve_callT ca_int T.n_int bt_int (va_cons (ve_var (pv 0)) va_nil)) (ve_callT ca_int T.n_int bt_int (va_cons (ve_var (pv 1)) va_nil))) va_nil)) rfl)))
    (vs_one (vs_ret (ve_var (pv 0)))))
theorem ok_common_multiple (T : Txt G mg) {f : Addr} {fd : FuncData} (F : Fun G.K "common_multiple" "common_multiple" s_common_multiple f fd) (C_common_divisor : Cal P w G mg base "common_divisor" 1 2 m_common_divisor) : FnOk P w G.K mg base CX0 2 f fd ["numbers"] (spV G 1 m_common_multiple) :=
  fn_ok F sc_common_multiple fun c cdv A outer sh H E hG hr => by
    subst hG
    exact (vs_cons (vs_set (i := 1) sc_common_multiple.nd ve_int)
    (vs_cons (vs_for (t := (.nm 2)) PassesOwn.never rfl (vi_list (ve_var (pv 0))) (pg_name (i := 2) sc_common_multiple.nd rfl (Or.inl rfl))
    (vs_one (vs_set (i := 1) sc_common_multiple.nd (ve_op od_mul (ve_op od_fdiv (ve_var (pv 1)) (ve_call C_common_divisor rfl (hr.mono (by decide)) (va_cons (ve_var (pv 1)) (va_cons (ve_var (pv 2)) va_nil)))) (ve_var (pv 2))))))
    (vs_one (vs_ret (ve_var (pv 1))))))
theorem ok_in_units (T : Txt G mg) {f : Addr} {fd : FuncData} (F : Fun G.K "in_units" "in_units" s_in_units f fd) (C_common_multiple : Cal P w G mg base "common_multiple" 2 1 m_common_multiple) : FnOk P w G.K mg base CX0 3 f fd ["phases"] (spV G 1 m_in_units) :=
  fn_ok F sc_in_units fun c cdv A outer sh H E hG hr => by
    subst hG
    exact (vs_cons (vs_set (i := 1) sc_in_units.nd (ve_call C_common_multiple rfl (hr.mono (by decide)) (va_cons (ve_lc (own := [("number", 2), ("total", 3)]) (.tp [2, 3]) rfl sc_in_units.nd (vi_tup (ve_var (pv 0))) (blkOk_by (N := N_in_units) (sc := defScope s_in_units) (by decide +kernel)) rfl (fun _ _ _ _ _ => (pg_tup rfl (pgs_cons (pg_name (i := 2) sc_in_units.nd rfl (Or.inl rfl)) (pgs_cons (pg_name (i := 3) sc_in_units.nd rfl (Or.inl rfl)) pgs_nil)))) (fun _ _ _ _ _ _ _ _ => vts_nil) (fun _ _ _ _ _ _ _ _ => (ve_var (pv 3)))) va_nil)))
    (vs_one (vs_ret (ve_tup (va_cons (ve_lc (own := [("number", 2), ("total", 3)]) (.tp [2, 3]) rfl sc_in_units.nd (vi_tup (ve_var (pv 0))) (blkOk_by (N := N_in_units) (sc := defScope s_in_units) (by decide +kernel)) rfl (fun _ _ _ _ _ => (pg_tup rfl (pgs_cons (pg_name (i := 2) sc_in_units.nd rfl (Or.inl rfl)) (pgs_cons (pg_name (i := 3) sc_in_units.nd rfl (Or.inl rfl)) pgs_nil)))) (fun _ _ _ _ _ _ _ _ => vts_nil) (fun _ _ _ _ _ _ _ _ => (ve_op od_mul (ve_var (pv 2)) (ve_op od_fdiv (ve_var (pv 1)) (ve_var (pv 3)))))) (va_cons (ve_var (pv 1)) va_nil))))))
theorem ok_places_of (T : Txt G mg) {f : Addr} {fd : FuncData} (F : Fun G.K "places_of" "places_of" s_places_of f fd) (C_place_of : Cal P w G mg base "place_of" 1 2 m_place_of) : FnOk P w G.K mg base CX0 2 f fd ["net", "path"] (spV G 2 m_places_of) :=
  fn_ok F sc_places_of fun c cdv A outer sh H E hG hr => by
    subst hG
    exact (vs_one (vs_ret (ve_lc (own := [("name", 2)]) (.nm 2) rfl sc_places_of.nd (vi_list (ve_var (pv 1))) (blkOk_by (N := N_places_of) (sc := defScope s_places_of) (by decide +kernel)) rfl (fun _ _ _ _ _ => (pg_name (i := 2) sc_places_of.nd rfl (Or.inl rfl))) (fun _ _ _ _ _ _ _ _ => vts_nil) (fun _ _ _ _ _ _ _ _ => (ve_call C_place_of rfl (hr.mono (by decide)) (va_cons (ve_var (pv 0)) (va_cons (ve_var (pv 2)) va_nil)))))))
theorem ok_whole_turn (T : Txt G mg) {f : Addr} {fd : FuncData} (F : Fun G.K "whole_turn" "whole_turn" s_whole_turn f fd) (C_common_multiple : Cal P w G mg base "common_multiple" 2 1 m_common_multiple) : FnOk P w G.K mg base CX0 3 f fd ["net"] (spV G 1 m_whole_turn) :=
  fn_ok F sc_whole_turn fun c cdv A outer sh H E hG hr => by
    subst hG
    exact (vs_one (vs_ret (ve_call C_common_multiple rfl (hr.mono (by decide)) (va_cons (ve_lc (own := [("step", 1)]) (.nm 1) rfl sc_whole_turn.nd (vi_tup (ve_fld 1 0 (ve_var (pv 0)) T.c1.cl T.a1_nodes T.l1_nodes)) (blkOk_by (N := N_whole_turn) (sc := defScope s_whole_turn) (by decide +kernel)) rfl (fun _ _ _ _ _ => (pg_name (i := 1) sc_whole_turn.nd rfl (Or.inl rfl))) (fun _ _ _ _ _ _ _ _ => vts_nil) (fun _ _ _ _ _ _ _ _ => (ve_fld 0 1 (ve_var (pv 1)) T.c0.cl T.a0_turn T.l0_turn))) va_nil))))
theorem ok_runs_in_turn (T : Txt G mg) {f : Addr} {fd : FuncData} (F : Fun G.K "runs_in_turn" "runs_in_turn" s_runs_in_turn f fd) (C_whole_turn : Cal P w G mg base "whole_turn" 3 1 m_whole_turn) : FnOk P w G.K mg base CX0 4 f fd ["net", "place"] (spV G 2 m_runs_in_turn) :=
  fn_ok F sc_runs_in_turn fun c cdv A outer sh H E hG hr => by
    subst hG
    exact (vs_one (vs_ret (ve_op od_fdiv (ve_call C_whole_turn rfl (hr.mono (by decide)) (va_cons (ve_var (pv 0)) va_nil)) (ve_fld 0 1 (ve_ix rfl (ve_fld 1 0 (ve_var (pv 0)) T.c1.cl T.a1_nodes T.l1_nodes) (ve_var (pv 1))) T.c0.cl T.a0_turn T.l0_turn))))
theorem ok_run_read (T : Txt G mg) {f : Addr} {fd : FuncData} (F : Fun G.K "run_read" "run_read" s_run_read f fd)  : FnOk P w G.K mg base CX0 1 f fd ["net", "starts", "scale", "reader", "source", "run"] (spV G 6 m_run_read) :=
  fn_ok F sc_run_read fun c cdv A outer sh H E hG hr => by
    subst hG
    exact (vs_cons (vs_set (i := 6) sc_run_read.nd (ve_op od_add (ve_ix rfl (ve_var (pv 1)) (ve_var (pv 3))) (ve_op od_mul (ve_op od_mul (ve_var (pv 5)) (ve_fld 0 1 (ve_ix rfl (ve_fld 1 0 (ve_var (pv 0)) T.c1.cl T.a1_nodes T.l1_nodes) (ve_var (pv 3))) T.c0.cl T.a0_turn T.l0_turn)) (ve_var (pv 2)))))
    (vs_cons (vs_set (i := 7) sc_run_read.nd (ve_op od_sub (ve_op od_sub (ve_var (pv 6)) (ve_ix rfl (ve_var (pv 1)) (ve_var (pv 4)))) (ve_op od_mul (ve_fld 0 2 (ve_ix rfl (ve_fld 1 0 (ve_var (pv 0)) T.c1.cl T.a1_nodes T.l1_nodes) (ve_var (pv 4))) T.c0.cl T.a0_lag T.l0_lag) (ve_var (pv 2)))))
    (vs_one (vs_ret (ve_op od_fdiv (ve_var (pv 7)) (ve_op od_mul (ve_fld 0 1 (ve_ix rfl (ve_fld 1 0 (ve_var (pv 0)) T.c1.cl T.a1_nodes T.l1_nodes) (ve_var (pv 4))) T.c0.cl T.a0_turn T.l0_turn) (ve_var (pv 2))))))))
theorem ok_run_carried (T : Txt G mg) {f : Addr} {fd : FuncData} (F : Fun G.K "run_carried" "run_carried" s_run_carried f fd) (C_run_read : Cal P w G mg base "run_read" 1 6 m_run_read) : FnOk P w G.K mg base CX0 2 f fd ["net", "starts", "scale", "places", "run"] (spV G 5 m_run_carried) :=
  fn_ok F sc_run_carried fun c cdv A outer sh H E hG hr => by
    subst hG
    exact (vs_cons (vs_for (t := (.nm 5)) PassesOwn.never rfl (vi_rangeD T.n_range (va_cons (ve_op od_sub (ve_callB (ca_len rfl) T.n_len bt_len (va_cons (ve_var (pv 3)) va_nil)) ve_int) (va_cons ve_int (va_cons (ve_neg ve_int) va_nil)))) (pg_name (i := 5) sc_run_carried.nd rfl (Or.inl rfl))
    (vs_one (vs_set (i := 4) sc_run_carried.nd (ve_call C_run_read rfl (hr.mono (by decide)) (va_cons (ve_var (pv 0)) (va_cons (ve_var (pv 1)) (va_cons (ve_var (pv 2)) (va_cons (ve_ix rfl (ve_var (pv 3)) (ve_var (pv 5))) (va_cons (ve_ix rfl (ve_var (pv 3)) (ve_op od_sub (ve_var (pv 5)) ve_int)) (va_cons (ve_var (pv 4)) va_nil))))))))))
    (vs_one (vs_ret (ve_var (pv 4)))))
theorem ok_all_carried (T : Txt G mg) {f : Addr} {fd : FuncData} (F : Fun G.K "all_carried" "all_carried" s_all_carried f fd) (C_runs_in_turn : Cal P w G mg base "runs_in_turn" 4 2 m_runs_in_turn) (C_run_carried : Cal P w G mg base "run_carried" 2 5 m_run_carried) : FnOk P w G.K mg base CX0 5 f fd ["net", "starts", "scale", "places"] (spV G 4 m_all_carried) :=
  fn_ok F sc_all_carried fun c cdv A outer sh H E hG hr => by
    subst hG
    exact (vs_cons (vs_set (i := 4) sc_all_carried.nd (ve_call C_runs_in_turn rfl (hr.mono (by decide)) (va_cons (ve_var (pv 0)) (va_cons (ve_ix rfl (ve_var (pv 3)) (ve_neg ve_int)) va_nil))))
    (vs_one (vs_ret (ve_lc (own := [("run", 5)]) (.nm 5) rfl sc_all_carried.nd (vi_range2 T.n_range (va_cons (ve_op od_sub ve_int ve_int) (va_cons (ve_var (pv 4)) va_nil))) (blkOk_by (N := N_all_carried) (sc := defScope s_all_carried) (by decide +kernel)) rfl (fun _ _ _ _ _ => (pg_name (i := 5) sc_all_carried.nd rfl (Or.inl rfl))) (fun _ _ _ _ _ _ _ _ => vts_nil) (fun _ _ _ _ _ _ _ _ => (ve_call C_run_carried rfl (hr.mono (by decide)) (va_cons (ve_var (pv 0)) (va_cons (ve_var (pv 1)) (va_cons (ve_var (pv 2)) (va_cons (ve_var (pv 3)) (va_cons (ve_var (pv 5)) va_nil)))))))))))
theorem ok_time_begun (T : Txt G mg) {f : Addr} {fd : FuncData} (F : Fun G.K "time_begun" "time_begun" s_time_begun f fd)  : FnOk P w G.K mg base CX0 1 f fd ["net", "starts", "scale", "place", "run"] (spV G 5 m_time_begun) :=
  fn_ok F sc_time_begun fun c cdv A outer sh H E hG hr => by
    subst hG
    exact (vs_one (vs_ret (ve_op od_add (ve_ix rfl (ve_var (pv 1)) (ve_var (pv 3))) (ve_op od_mul (ve_op od_mul (ve_var (pv 4)) (ve_fld 0 1 (ve_ix rfl (ve_fld 1 0 (ve_var (pv 0)) T.c1.cl T.a1_nodes T.l1_nodes) (ve_var (pv 3))) T.c0.cl T.a0_turn T.l0_turn)) (ve_var (pv 2))))))
theorem ok_time_written (T : Txt G mg) {f : Addr} {fd : FuncData} (F : Fun G.K "time_written" "time_written" s_time_written f fd) (C_time_begun : Cal P w G mg base "time_begun" 1 5 m_time_begun) : FnOk P w G.K mg base CX0 2 f fd ["net", "starts", "scale", "place", "run"] (spV G 5 m_time_written) :=
  fn_ok F sc_time_written fun c cdv A outer sh H E hG hr => by
    subst hG
    exact (vs_one (vs_ret (ve_op od_add (ve_call C_time_begun rfl (hr.mono (by decide)) (va_cons (ve_var (pv 0)) (va_cons (ve_var (pv 1)) (va_cons (ve_var (pv 2)) (va_cons (ve_var (pv 3)) (va_cons (ve_var (pv 4)) va_nil)))))) (ve_op od_mul (ve_fld 0 2 (ve_ix rfl (ve_fld 1 0 (ve_var (pv 0)) T.c1.cl T.a1_nodes T.l1_nodes) (ve_var (pv 3))) T.c0.cl T.a0_lag T.l0_lag) (ve_var (pv 2))))))
theorem ok_greatest_wait (T : Txt G mg) {f : Addr} {fd : FuncData} (F : Fun G.K "greatest_wait" "greatest_wait" s_greatest_wait f fd) (C_all_carried : Cal P w G mg base "all_carried" 5 4 m_all_carried) (C_time_written : Cal P w G mg base "time_written" 2 5 m_time_written) (C_time_begun : Cal P w G mg base "time_begun" 1 5 m_time_begun) : FnOk P w G.K mg base CX0 6 f fd ["net", "starts", "scale", "places"] (spV G 4 m_greatest_wait) :=
  fn_ok F sc_greatest_wait fun c cdv A outer sh H E hG hr => by
    subst hG
    exact (vs_cons (vs_set (i := 4) sc_greatest_wait.nd (ve_call C_all_carried rfl (hr.mono (by decide)) (va_cons (ve_var (pv 0)) (va_cons (ve_var (pv 1)) (va_cons (ve_var (pv 2)) (va_cons (ve_var (pv 3)) va_nil))))))
    (vs_cons (vs_set (i := 5) sc_greatest_wait.nd ve_non)
    (vs_cons (vs_for (t := (.np 6 [7, 8])) PassesOwn.never rfl (vi_enumZ T.n_enumerate T.n_zip (va_cons (ve_var (pv 4)) (va_cons (ve_slice (ve_var (pv 4)) (vo_some ve_int) vo_none) va_nil))) (pg_tup rfl (pgs_cons (pg_name (i := 6) sc_greatest_wait.nd rfl (Or.inl rfl)) (pgs_cons (pg_tup rfl (pgs_cons (pg_name (i := 7) sc_greatest_wait.nd rfl (Or.inl rfl)) (pgs_cons (pg_name (i := 8) sc_greatest_wait.nd rfl (Or.inl rfl)) pgs_nil))) pgs_nil)))
    (vs_one (vs_if (vt_cmp od_lt (ve_var (pv 7)) (ve_var (pv 8)))
    (vs_cons (vs_set (i := 9) sc_greatest_wait.nd (ve_call C_time_written rfl (hr.mono (by decide)) (va_cons (ve_var (pv 0)) (va_cons (ve_var (pv 1)) (va_cons (ve_var (pv 2)) (va_cons (ve_ix rfl (ve_var (pv 3)) (ve_neg ve_int)) (va_cons (ve_var (pv 6)) va_nil)))))))
    (vs_cons (vs_set (i := 10) sc_greatest_wait.nd (ve_op od_sub (ve_var (pv 9)) (ve_call C_time_begun rfl (hr.mono (by decide)) (va_cons (ve_var (pv 0)) (va_cons (ve_var (pv 1)) (va_cons (ve_var (pv 2)) (va_cons (ve_ix rfl (ve_var (pv 3)) ve_int) (va_cons (ve_var (pv 7)) va_nil))))))))
    (vs_one (vs_if (PW.pt (vw_or (vt_isN (ve_var (pv 5))) (pw_or1 (vt_cmp od_gt (ve_var (pv 10)) (ve_var (pv 5))))))
    (vs_one (vs_set (i := 5) sc_greatest_wait.nd (ve_var (pv 10)))) vs_nil)))) vs_nil)))
    (vs_one (vs_ret (ve_var (pv 5)))))))
theorem ok_lowest (T : Txt G mg) {f : Addr} {fd : FuncData} (F : Fun G.K "lowest" "lowest" s_lowest f fd) (C_common_divisor : Cal P w G mg base "common_divisor" 1 2 m_common_divisor) : FnOk P w G.K mg base CX0 2 f fd ["number", "total"] (spV G 2 m_lowest) :=
  fn_ok F sc_lowest fun c cdv A outer sh H E hG hr => by
    subst hG
    exact (vs_cons (vs_set (i := 2) sc_lowest.nd (ve_call C_common_divisor rfl (hr.mono (by decide)) (va_cons (ve_callB (ca_abs) T.n_abs bt_abs (va_cons (ve_var (pv 0)) va_nil)) (va_cons (ve_var (pv 1)) va_nil))))
    (vs_one (vs_ret (ve_tup (va_cons (ve_op od_fdiv (ve_var (pv 0)) (ve_var (pv 2))) (va_cons (ve_op od_fdiv (ve_var (pv 1)) (ve_var (pv 2))) va_nil))))))
theorem ok_longest_wait (T : Txt G mg) {f : Addr} {fd : FuncData} (F : Fun G.K "longest_wait" "longest_wait" s_longest_wait f fd) (C_check_net_and_phases : Cal P w G mg base "check_net_and_phases" 4 2 m_check_net_and_phases) (C_check_path : Cal P w G mg base "check_path" 2 2 m_check_path) (C_in_units : Cal P w G mg base "in_units" 3 1 m_in_units) (C_places_of : Cal P w G mg base "places_of" 2 2 m_places_of) (C_greatest_wait : Cal P w G mg base "greatest_wait" 6 4 m_greatest_wait) (C_lowest : Cal P w G mg base "lowest" 2 2 m_lowest) : FnOk P w G.K mg base CX0 7 f fd ["net", "phases", "path"] (spV G 3 m_longest_wait) :=
  fn_ok F sc_longest_wait fun c cdv A outer sh H E hG hr => by
    subst hG
    exact (vs_cons (vs_drop (ve_call C_check_net_and_phases rfl (hr.mono (by decide)) (va_cons (ve_var (pv 0)) (va_cons (ve_var (pv 1)) va_nil))))
    (vs_cons (vs_drop (ve_call C_check_path rfl (hr.mono (by decide)) (va_cons (ve_var (pv 0)) (va_cons (ve_var (pv 2)) va_nil))))
    (vs_cons (vs_tup [3, 4] (ve_call C_in_units rfl (hr.mono (by decide)) (va_cons (ve_var (pv 1)) va_nil)) (pg_tup rfl (pgs_cons (pg_name (i := 3) sc_longest_wait.nd rfl (Or.inl rfl)) (pgs_cons (pg_name (i := 4) sc_longest_wait.nd rfl (Or.inl rfl)) pgs_nil))))
    (vs_one (vs_ret (ve_call C_lowest rfl (hr.mono (by decide)) (va_cons (ve_call C_greatest_wait rfl (hr.mono (by decide)) (va_cons (ve_var (pv 0)) (va_cons (ve_var (pv 3)) (va_cons (ve_var (pv 4)) (va_cons (ve_call C_places_of rfl (hr.mono (by decide)) (va_cons (ve_var (pv 0)) (va_cons (ve_var (pv 2)) va_nil))) va_nil))))) (va_cons (ve_var (pv 4)) va_nil))))))))
theorem ok_law_low (T : Txt G mg) {f : Addr} {fd : FuncData} (F : Fun G.K "_law_low" "_law_low" s_law_low f fd)  : FnOk P w G.K mg base CX0 1 f fd ["_law_number", "_law_total"] (spV G 2 m_law_low) :=
  fn_ok F sc_law_low fun c cdv A outer sh H E hG hr => by
    subst hG
    exact (vs_cons (vs_par2 (i := 2) (j := 3) rfl sc_law_low.nd (va_cons (ve_callB (ca_abs) T.n_abs bt_abs (va_cons (ve_var (pv 0)) va_nil)) (va_cons (ve_var (pv 1)) va_nil)) rfl)
    (vs_cons (vs_while (fuelI 3) PassesOwn.never (vt_cmp od_gt (ve_var (pv 3)) ve_int)
    (vs_one (vs_par2 (i := 2) (j := 3) rfl sc_law_low.nd (va_cons (ve_var (pv 3)) (va_cons (ve_op od_mod (ve_callT ca_int T.n_int bt_int (va_cons (ve_var (pv 2)) va_nil)) (ve_callT ca_int T.n_int bt_int (va_cons (ve_var (pv 3)) va_nil))) va_nil)) rfl)))
    (vs_one (vs_ret (ve_tup (va_cons (ve_op od_fdiv (ve_var (pv 0)) (ve_var (pv 2))) (va_cons (ve_op od_fdiv (ve_var (pv 1)) (ve_var (pv 2))) va_nil)))))))
theorem ok_law_run (T : Txt G mg) {f : Addr} {fd : FuncData} (F : Fun G.K "_law_run" "_law_run" s_law_run f fd) (C__law_draw : Cal P w G mg base "_law_draw" 1 2 m_law_draw) (C__law_pick : Cal P w G mg base "_law_pick" 2 2 m_law_pick) : FnOk P w G.K mg base CX0 3 f fd ["_law_purse_here"] (spV G 1 m_law_run) :=
  fn_ok F sc_law_run fun c cdv A outer sh H E hG hr => by
    subst hG
    exact (vs_cons (vs_set (i := 1) sc_law_run.nd (ve_callM C__law_draw rfl (hr.mono (by decide)) (pv 0) (va_cons ve_int va_nil)))
    (vs_cons (vs_for (t := (.nm 2)) PassesOwn.never rfl (vi_range1 T.n_range (va_cons (ve_callM C__law_pick rfl (hr.mono (by decide)) (pv 0) (va_cons (ve_lst (va_cons ve_int (va_cons ve_int (va_cons ve_int (va_cons ve_int (va_cons ve_int va_nil)))))) va_nil)) va_nil)) (pg_name (i := 2) sc_law_run.nd rfl (Or.inl rfl))
    (vs_one (vs_set (i := 1) sc_law_run.nd (ve_op od_add (ve_op od_mul (ve_var (pv 1)) ve_int) (ve_callM C__law_draw rfl (hr.mono (by decide)) (pv 0) (va_cons ve_int va_nil))))))
    (vs_one (vs_ret (ve_op od_sub (ve_var (pv 1)) (ve_callM C__law_pick rfl (hr.mono (by decide)) (pv 0) (va_cons (ve_lst (va_cons ve_int (va_cons (ve_op od_mul ve_int (ve_var (pv 1))) va_nil))) va_nil)))))))
theorem ok_law (T : Txt G mg) {f : Addr} {fd : FuncData} (F : Fun G.K "law" "law" s_law f fd) (C__law_purse : CalM P w G mg base "_law_purse" 1 2 m_law_purse) (C__law_net : Cal P w G mg base "_law_net" 4 1 m_law_net) (C__law_made : Cal P w G mg base "_law_made" 6 1 m_law_made) (C__law_phases : Cal P w G mg base "_law_phases" 3 2 m_law_phases) (C__law_path : Cal P w G mg base "_law_path" 3 2 m_law_path) (C__law_units : Cal P w G mg base "_law_units" 2 1 m_law_units) (C__law_all_runs_turn : Cal P w G mg base "_law_all_runs_turn" 2 1 m_law_all_runs_turn) (C__law_wait : Cal P w G mg base "_law_wait" 6 4 m_law_wait) (C__law_named : Cal P w G mg base "_law_named" 1 2 m_law_named) (C_longest_wait : Cal P w G mg base "longest_wait" 7 3 m_longest_wait) (C__law_low : Cal P w G mg base "_law_low" 1 2 m_law_low) (C__law_run : Cal P w G mg base "_law_run" 3 1 m_law_run) (C__law_began : Cal P w G mg base "_law_began" 1 4 m_law_began) (C__law_draw : Cal P w G mg base "_law_draw" 1 2 m_law_draw) (C__law_first_that_carries : Cal P w G mg base "_law_first_that_carries" 5 4 m_law_first_that_carries) (C__law_wrote : Cal P w G mg base "_law_wrote" 2 4 m_law_wrote) : FnG P w G.K mg base 8 f fd ["_law_script"] (spV G 1 m_law) :=
  fn_okG F sc_law fun c cdv A outer sh H E hG hgd hr => by
    subst hG
    exact (vs_cons (vs_for (t := (.nm 1)) PassesOwn.never rfl (vi_range1 T.n_range (va_cons ve_int va_nil)) (pg_name (i := 1) sc_law.nd rfl (Or.inl rfl))
    (vs_cons (vs_ownC (i := 2) C__law_purse rfl (hr.mono (by decide)) sc_law.nd (va_cons (ve_var (pv 0)) (va_cons (ve_var (pv 1)) va_nil)))
    (vs_cons (vs_set (i := 3) sc_law.nd (ve_callM C__law_net rfl (hr.mono (by decide)) (pv 2) va_nil))
    (vs_cons (vs_tup [4, 5, 6] (ve_tup (va_cons (ve_call C__law_made rfl (hr.mono (by decide)) (va_cons (ve_var (pv 3)) va_nil)) (va_cons (ve_callM C__law_phases rfl (hr.mono (by decide)) (pv 2) (va_cons (ve_var (pv 3)) va_nil)) (va_cons (ve_callM C__law_path rfl (hr.mono (by decide)) (pv 2) (va_cons (ve_var (pv 3)) va_nil)) va_nil)))) (pg_tup rfl (pgs_cons (pg_name (i := 4) sc_law.nd rfl (Or.inl rfl)) (pgs_cons (pg_name (i := 5) sc_law.nd rfl (Or.inl rfl)) (pgs_cons (pg_name (i := 6) sc_law.nd rfl (Or.inr rfl)) pgs_nil)))))
    (vs_cons (vs_set (i := 7) sc_law.nd (ve_call C__law_units rfl (hr.mono (by decide)) (va_cons (ve_var (pv 5)) va_nil)))
    (vs_cons (vs_set (i := 8) sc_law.nd (ve_op od_fdiv (ve_call C__law_all_runs_turn rfl (hr.mono (by decide)) (va_cons (ve_var (pv 3)) va_nil)) (ve_ix rfl (ve_ix rfl (ve_var (pv 3)) (ve_ix rfl (ve_var (pv 6)) ve_int)) ve_int)))
    (vs_cons (vs_set (i := 9) sc_law.nd (ve_callB (ca_max rfl) T.n_max bt_max (va_cons (ve_lc (own := [("_law_source", 10)]) (.nm 10) rfl sc_law.nd (vi_range1 T.n_range (va_cons (ve_var (pv 8)) va_nil)) (blkOk_by (N := N_law) (sc := defScope s_law) (by decide +kernel)) rfl (fun _ _ _ _ _ => (pg_name (i := 10) sc_law.nd rfl (Or.inl rfl))) (fun _ _ _ _ _ _ _ _ => vts_nil) (fun _ _ _ _ _ _ _ _ => (ve_callT ca_int T.n_int bt_int (va_cons (ve_call C__law_wait rfl (hr.mono (by decide)) (va_cons (ve_var (pv 3)) (va_cons (ve_var (pv 7)) (va_cons (ve_var (pv 6)) (va_cons (ve_var (pv 10)) va_nil))))) va_nil)))) va_nil)))
    (vs_cons (vs_if (vt_cmp (od_ne hr.units) (ve_callB (ca_repr rfl hgd (hu100 hr)) T.n_repr bt_repr (va_cons (ve_call C_longest_wait rfl (hr.mono (by decide)) (va_cons (ve_var (pv 4)) (va_cons (ve_var (pv 5)) (va_cons (ve_call C__law_named rfl (hr.mono (by decide)) (va_cons (ve_var (pv 3)) (va_cons (ve_var (pv 6)) va_nil))) va_nil)))) va_nil)) (ve_callB (ca_repr rfl hgd (hu100 hr)) T.n_repr bt_repr (va_cons (ve_call C__law_low rfl (hr.mono (by decide)) (va_cons (ve_var (pv 9)) (va_cons (ve_ix rfl (ve_var (pv 7)) ve_int) va_nil))) va_nil)))
    (vs_one (vs_ret ve_bl)) vs_nil)
    (vs_one (vs_for (t := (.nm 11)) PassesOwn.never rfl (vi_range1 T.n_range (va_cons ve_int va_nil)) (pg_name (i := 11) sc_law.nd rfl (Or.inl rfl))
    (vs_cons (vs_set (i := 10) sc_law.nd (ve_callM C__law_run rfl (hr.mono (by decide)) (pv 2) va_nil))
    (vs_cons (vs_set (i := 12) sc_law.nd (ve_op od_sub (ve_call C__law_began rfl (hr.mono (by decide)) (va_cons (ve_var (pv 3)) (va_cons (ve_var (pv 7)) (va_cons (ve_ix rfl (ve_var (pv 6)) ve_int) (va_cons (ve_var (pv 10)) va_nil))))) (ve_callM C__law_draw rfl (hr.mono (by decide)) (pv 2) (va_cons (ve_op od_mul (ve_ix rfl (ve_ix rfl (ve_var (pv 3)) (ve_ix rfl (ve_var (pv 6)) ve_int)) ve_int) (ve_ix rfl (ve_var (pv 7)) ve_int)) va_nil))))
    (vs_cons (vs_set (i := 13) sc_law.nd (ve_call C__law_first_that_carries rfl (hr.mono (by decide)) (va_cons (ve_var (pv 3)) (va_cons (ve_var (pv 7)) (va_cons (ve_var (pv 6)) (va_cons (ve_var (pv 10)) va_nil))))))
    (vs_one (vs_if (vt_cmp od_ge (ve_op od_sub (ve_call C__law_wrote rfl (hr.mono (by decide)) (va_cons (ve_var (pv 3)) (va_cons (ve_var (pv 7)) (va_cons (ve_ix rfl (ve_var (pv 6)) (ve_neg ve_int)) (va_cons (ve_var (pv 13)) va_nil))))) (ve_var (pv 12))) (ve_var (pv 9)))
    (vs_one (vs_ret ve_bl)) vs_nil)))))))))))))))
    (vs_one (vs_ret ve_bl)))
end
end Toy

set_option Elab.async false
set_option linter.all false
set_option maxRecDepth 100000
set_option maxHeartbeats 8000000
namespace Toy
open PySem PySem.Spec PyProof.Rows L2 VS
/-! sizes -/
def Sm (b : Nat) (i : Int) : Prop := i.natAbs < 2 ^ b
theorem Sm.bd {b : Nat} {i : Int} (h : Sm b i) (hb : b ≤ 4000) : Bd i := Nat.lt_of_lt_of_le h (Nat.pow_le_pow_right (by decide) hb)
theorem Sm.mono {b d : Nat} {i : Int} (h : Sm b i) (hb : b ≤ d) : Sm d i := Nat.lt_of_lt_of_le h (Nat.pow_le_pow_right (by decide) hb)
theorem Sm.mul {b d : Nat} {i j : Int} (h : Sm b i) (k : Sm d j) : Sm (b + d) (i * j) := by
  unfold Sm at *
  rw [Int.natAbs_mul, Nat.pow_add]
  exact Nat.mul_lt_mul'' h k
theorem Sm.add {b : Nat} {i j : Int} (h : Sm b i) (k : Sm b j) : Sm (b + 1) (i + j) := by
  unfold Sm at *
  rw [Nat.pow_succ]
  omega
theorem Sm.sub {b : Nat} {i j : Int} (h : Sm b i) (k : Sm b j) : Sm (b + 1) (i - j) := by
  unfold Sm at *
  rw [Nat.pow_succ]
  omega
theorem Sm.add' {b d e : Nat} {i j : Int} (h : Sm b i) (k : Sm d j) (hb : b < e) (hd : d < e) : Sm e (i + j) := by
  have := (h.mono (d := e - 1) (by omega)).add (k.mono (d := e - 1) (by omega))
  rwa [show e - 1 + 1 = e by omega] at this
theorem Sm.sub' {b d e : Nat} {i j : Int} (h : Sm b i) (k : Sm d j) (hb : b < e) (hd : d < e) : Sm e (i - j) := by
  have := (h.mono (d := e - 1) (by omega)).sub (k.mono (d := e - 1) (by omega))
  rwa [show e - 1 + 1 = e by omega] at this
theorem Sm.div {b : Nat} {i j : Int} (h : Sm b i) (k : 0 < j) : Sm (b + 1) (i / j) := by
  unfold Sm at *
  rw [Nat.pow_succ]
  have h1 : i / j * j ≤ i := Int.ediv_mul_le i (by omega)
  have h2 : i < i / j * j + j := by
    have := Int.lt_ediv_add_one_mul_self i k
    rwa [Int.add_mul, Int.one_mul] at this
  have h3 : (i / j).natAbs ≤ i.natAbs + 1 := by
    rcases Int.le_total 0 (i / j) with q | q
    · have : i / j * 1 ≤ i / j * j := Int.mul_le_mul_of_nonneg_left (by omega) q
      omega
    · have : i / j * j ≤ i / j * 1 := Int.mul_le_mul_of_nonpos_left q (by omega)
      by_cases z : i < 0
      · have : i ≤ i / j := by
          have a1 : i / j * j - i / j = (i / j) * (j - 1) := by rw [Int.mul_sub, Int.mul_one]
          rcases Int.lt_or_le (i / j) i with c | c
          · exfalso
            have : (i / j + 1) * j ≤ (i/j + 1) * 1 := Int.mul_le_mul_of_nonpos_left (by omega) (by omega)
            rw [Int.add_mul, Int.one_mul, Int.mul_one] at this
            omega
          · exact c
        omega
      · have : 0 ≤ i / j := Int.ediv_nonneg (by omega) (by omega)
        omega
  have : 0 < 2 ^ b := Nat.pow_pos (by decide)
  omega
/-! nets as data -/
structure Stp where
  nm : Str
  p : Int
  l : Int
  rd : List Str
abbrev Nt := List Stp
def stpD (s : Stp) : D := .ins 0 [.str s.nm, .int s.p, .int s.l, .tup (s.rd.map .str)]
def netD (ns : Nt) : D := .ins 1 [.tup (ns.map stpD)]
def pp (ns : Nt) (i : Nat) : Int := ((ns[i]?).map (·.p)).getD 1
def ll (ns : Nt) (i : Nat) : Int := ((ns[i]?).map (·.l)).getD 0
def ss (S : List Int) (i : Nat) : Int := (S[i]?).getD 0
theorem atI_nat {α : Type} (xs : List α) (i : Nat) : L2.atI xs (i : Int) = xs[i]? := by
  unfold L2.atI L2.ixN
  rw [if_pos (by omega)]
  by_cases h : (i : Int) < xs.length
  · rw [if_pos h]; rfl
  · rw [if_neg h, List.getElem?_eq_none (by omega)]; rfl
theorem gMul_eq {a b : Int} (h1 : Bd a) (h2 : Bd b) : gMul (.int a) (.int b) = some (.int (a * b)) := if_pos ⟨h1, h2⟩
theorem gFdiv_eq {a b : Int} (h1 : 0 < b) (h2 : Bd b) : gFdiv (.int a) (.int b) = some (.int (a / b)) := if_pos ⟨h1, h2⟩
theorem gMod_eq {a b : Int} (h1 : 0 < b) : gMod (.int a) (.int b) = some (.int (a % b)) := if_pos h1
theorem gAdd_eq {a b : Int} : gAdd (.int a) (.int b) = some (.int (a + b)) := rfl
theorem gSub_eq {a b : Int} : gSub (.int a) (.int b) = some (.int (a - b)) := rfl
theorem gIx_lst {xs : List D} {i : Int} : gIx (.lst xs) (.int i) = L2.atI xs i := rfl
theorem gIx_tup {xs : List D} {i : Int} : gIx (.tup xs) (.int i) = L2.atI xs i := rfl
theorem nodes_eq {ns : Nt} : gFld 1 0 (netD ns) = some (.tup (ns.map stpD)) := rfl
theorem turn_eq {s : Stp} : gFld 0 1 (stpD s) = some (.int s.p) := rfl
theorem lag_eq {s : Stp} : gFld 0 2 (stpD s) = some (.int s.l) := rfl
theorem name_eq {s : Stp} : gFld 0 0 (stpD s) = some (.str s.nm) := rfl
theorem srcs_eq {s : Stp} : gFld 0 3 (stpD s) = some (.tup (s.rd.map .str)) := rfl
theorem gSub_t {a b : Int} : gSub (.int a) (.int b) = some (.int (a - b)) := rfl
theorem map_get {α β : Type} {f : α → β} {xs : List α} {i : Nat} {x : α} (h : xs[i]? = some x) : (xs.map f)[i]? = some (f x) := by rw [List.getElem?_map, h]; rfl
theorem time_begun_eq {ns : Nt} {S : List Int} {sc r : Int} {i : Nat} {s : Stp} {x : Int} (hi : ns[i]? = some s) (hx : S[i]? = some x) (b1 : Bd r) (b2 : Bd s.p) (b3 : Bd (r * s.p)) (b4 : Bd sc) :
    m_time_begun [.val (netD ns), .val (.lst (S.map .int)), .val (.int sc), .val (.int i), .val (.int r)] = some (.int (x + r * s.p * sc), []) := by
  have e1 := map_get (f := stpD) hi
  have e2 := map_get (f := D.int) hx
  simp only [m_time_begun, b_time_begun, mir, kRet, s2, s1, sV, List.length_cons, List.length_nil, List.cons_append, List.nil_append, List.replicate, List.getElem?_cons_zero, List.getElem?_cons_succ, gIx_lst, gIx_tup, nodes_eq, turn_eq, lag_eq, atI_nat, e1, e2, gMul_eq, b1, b2, b3, b4, gAdd_eq, outOf]
theorem time_written_eq {ns : Nt} {S : List Int} {sc r : Int} {i : Nat} {s : Stp} {x : Int} (hi : ns[i]? = some s) (hx : S[i]? = some x) (b1 : Bd r) (b2 : Bd s.p) (b3 : Bd (r * s.p)) (b4 : Bd sc) (b5 : Bd s.l) :
    m_time_written [.val (netD ns), .val (.lst (S.map .int)), .val (.int sc), .val (.int i), .val (.int r)] = some (.int (x + r * s.p * sc + s.l * sc), []) := by
  have e1 := map_get (f := stpD) hi
  have e2 := map_get (f := D.int) hx
  have e3 := time_begun_eq (sc := sc) hi hx b1 b2 b3 b4
  simp only [m_time_written, b_time_written, mir, kRet, s2, s1, sV, sCall, aC, aN, List.map_cons, List.map_nil, List.length_cons, List.length_nil, List.cons_append, List.nil_append, List.replicate, List.getElem?_cons_zero, List.getElem?_cons_succ, gIx_lst, gIx_tup, nodes_eq, turn_eq, lag_eq, atI_nat, e1, e2, e3, gMul_eq, b1, b2, b3, b4, b5, gAdd_eq, outOf, if_true]
theorem run_read_eq {ns : Nt} {S : List Int} {sc run : Int} {r q : Nat} {s t : Stp} {x y : Int} (hr : ns[r]? = some s) (hq : ns[q]? = some t) (hx : S[r]? = some x) (hy : S[q]? = some y) (b1 : Bd run) (b2 : Bd s.p) (b3 : Bd (run * s.p)) (b4 : Bd sc) (b5 : Bd t.l) (b6 : Bd t.p) (b7 : 0 < t.p * sc) (b8 : Bd (t.p * sc)) :
    m_run_read [.val (netD ns), .val (.lst (S.map .int)), .val (.int sc), .val (.int r), .val (.int q), .val (.int run)] = some (.int ((x + run * s.p * sc - y - t.l * sc) / (t.p * sc)), []) := by
  have e1 := map_get (f := stpD) hr
  have e2 := map_get (f := stpD) hq
  have e3 := map_get (f := D.int) hx
  have e4 := map_get (f := D.int) hy
  simp only [m_run_read, b_run_read, mir, kS, kSet, kRet, s2, s1, sV, List.length_cons, List.length_nil, List.cons_append, List.nil_append, List.replicate, List.getElem?_cons_zero, List.getElem?_cons_succ, List.set_cons_zero, List.set_cons_succ, gIx_lst, gIx_tup, nodes_eq, turn_eq, lag_eq, atI_nat, e1, e2, e3, e4, gMul_eq, gFdiv_eq, b1, b2, b3, b4, b5, b6, b7, b8, gAdd_eq, gSub_eq, outOf]
end Toy

set_option Elab.async false
set_option linter.all false
set_option maxRecDepth 100000
set_option maxHeartbeats 8000000
namespace Toy
open PySem PySem.Spec PyProof.Rows L2 VS
/-! the greatest common divisor, three times -/
def gd (a b : Int) : Int := (Int.gcd a b : Int)
theorem gNe_int {a b : Int} : gNe (.int a) (.int b) = some (.bl (!decide (a = b))) := rfl
theorem gEq_int {a b : Int} : gEq (.int a) (.int b) = some (.bl (decide (a = b))) := rfl
theorem gGt_int {a b : Int} : gGt (.int a) (.int b) = some (.bl (decide (b < a))) := rfl
theorem gLt_int {a b : Int} : gLt (.int a) (.int b) = some (.bl (decide (a < b))) := rfl
theorem gLe_int {a b : Int} : gLe (.int a) (.int b) = some (.bl (decide (a ≤ b))) := rfl
theorem gGe_int {a b : Int} : gGe (.int a) (.int b) = some (.bl (decide (b ≤ a))) := rfl
theorem gInt_int {a : Int} : gInt [.int a] = some (.int a) := rfl
theorem gd_zero {a : Int} (h : 0 ≤ a) : gd a 0 = a := by unfold gd; rw [Int.gcd_zero_right]; omega
theorem gd_step {a b : Int} (ha : 0 ≤ a) (hb : 0 < b) : gd b (a % b) = gd a b := by
  obtain ⟨m, rfl⟩ := Int.eq_ofNat_of_zero_le ha
  obtain ⟨n, rfl⟩ := Int.eq_ofNat_of_zero_le (Int.le_of_lt hb)
  unfold gd
  have e : (m : Int) % (n : Int) = ((m % n : Nat) : Int) := (Int.natCast_emod m n).symm
  rw [e]
  unfold Int.gcd
  simp only [Int.natAbs_natCast]
  rw [Nat.gcd_comm n (m % n), ← Nat.gcd_rec n m, Nat.gcd_comm n m]
theorem gd_pos {a b : Int} (hb : 0 < b) : 0 < gd a b := by
  have : 0 < Int.gcd a b := Int.gcd_pos_of_ne_zero_right a (by omega)
  unfold gd
  omega
theorem gd_dvd_l (a b : Int) : gd a b ∣ a := Int.gcd_dvd_left ..
theorem gd_dvd_r (a b : Int) : gd a b ∣ b := Int.gcd_dvd_right ..
theorem cd_loop : ∀ (n : Nat) (a b : Int), 0 ≤ a → 0 ≤ b → b.natAbs < n →
    kWh (sB (s2 gNe (sV 1) (sK (.int 0)))) (kPar [0, 1] (aC (sV 1) (aC (s2 gMod (sL gInt (aC (sV 0) aN)) (sL gInt (aC (sV 1) aN))) aN))) n [.val (.int a), .val (.int b)] = some (.nx, [.val (.int (gd a b)), .val (.int 0)])
  | 0, _, _, _, _, h => by omega
  | n + 1, a, b, ha, hb, h => by
    unfold kWh
    simp only [sB, s2, sV, sK, List.getElem?_cons_zero, List.getElem?_cons_succ, gNe_int]
    by_cases e : b = 0
    · subst e
      simp [gd_zero ha]
    · have hb' : 0 < b := by omega
      simp only [e, decide_false, Bool.not_false, kPar, aC, aN, sV, s2, sL, List.getElem?_cons_zero, List.getElem?_cons_succ, gInt_int, gMod_eq hb', sets, List.set_cons_zero, List.set_cons_succ]
      have h1 := Int.emod_nonneg a (show b ≠ 0 by omega)
      have h2 := Int.emod_lt_of_pos a hb'
      rw [cd_loop n b (a % b) hb h1 (by omega), gd_step ha hb']
theorem common_divisor_eq {a b : Int} (ha : 0 ≤ a) (hb : 0 ≤ b) : m_common_divisor [.val (.int a), .val (.int b)] = some (.int (gd a b), []) := by
  have h := cd_loop (b.natAbs + 2) a b ha hb (by omega)
  simp only [m_common_divisor, b_common_divisor, mir, List.length_cons, List.length_nil, Nat.zero_add, Nat.reduceAdd, Nat.reduceSub, List.cons_append, List.nil_append, List.replicate, kS, kWhile, fuelI, List.getElem?_cons_zero, List.getElem?_cons_succ, h, kRet, sV, outOf]
theorem ld_loop : ∀ (n : Nat) (a b : Int), 0 ≤ a → 0 ≤ b → b.natAbs < n →
    kWh (sB (s2 gGt (sV 1) (sK (.int 0)))) (kPar [0, 1] (aC (sV 1) (aC (s2 gMod (sL gInt (aC (sV 0) aN)) (sL gInt (aC (sV 1) aN))) aN))) n [.val (.int a), .val (.int b)] = some (.nx, [.val (.int (gd a b)), .val (.int 0)])
  | 0, _, _, _, _, h => by omega
  | n + 1, a, b, ha, hb, h => by
    unfold kWh
    simp only [sB, s2, sV, sK, List.getElem?_cons_zero, List.getElem?_cons_succ, gGt_int]
    by_cases e : b = 0
    · subst e
      simp [gd_zero ha]
    · have hb' : 0 < b := by omega
      simp only [hb', decide_true, kPar, aC, aN, sV, s2, sL, List.getElem?_cons_zero, List.getElem?_cons_succ, gInt_int, gMod_eq hb', sets, List.set_cons_zero, List.set_cons_succ]
      have h1 := Int.emod_nonneg a (show b ≠ 0 by omega)
      have h2 := Int.emod_lt_of_pos a hb'
      rw [ld_loop n b (a % b) hb h1 (by omega), gd_step ha hb']
theorem ll_loop (x y : Sl) : ∀ (n : Nat) (a b : Int), 0 ≤ a → 0 ≤ b → b.natAbs < n →
    kWh (sB (s2 gGt (sV 3) (sK (.int 0)))) (kPar [2, 3] (aC (sV 3) (aC (s2 gMod (sL gInt (aC (sV 2) aN)) (sL gInt (aC (sV 3) aN))) aN))) n [x, y, .val (.int a), .val (.int b)] = some (.nx, [x, y, .val (.int (gd a b)), .val (.int 0)])
  | 0, _, _, _, _, h => by omega
  | n + 1, a, b, ha, hb, h => by
    unfold kWh
    simp only [sB, s2, sV, sK, List.getElem?_cons_zero, List.getElem?_cons_succ, gGt_int]
    by_cases e : b = 0
    · subst e
      simp [gd_zero ha]
    · have hb' : 0 < b := by omega
      simp only [hb', decide_true, kPar, aC, aN, sV, s2, sL, List.getElem?_cons_zero, List.getElem?_cons_succ, gInt_int, gMod_eq hb', sets, List.set_cons_zero, List.set_cons_succ]
      have h1 := Int.emod_nonneg a (show b ≠ 0 by omega)
      have h2 := Int.emod_lt_of_pos a hb'
      rw [ll_loop x y n b (a % b) hb h1 (by omega), gd_step ha hb']
/-- a fraction in lowest terms -/
def ab (a : Int) : Int := if a < 0 then -a else a
theorem ab_nonneg (a : Int) : 0 ≤ ab a := by unfold ab; split <;> omega
def lowD (a b : Int) : D := .tup [.int (a / gd (ab a) b), .int (b / gd (ab a) b)]
theorem gd_le {a b : Int} (hb : 0 < b) : gd a b ≤ b := Int.le_of_dvd hb (gd_dvd_r a b)
theorem gd_sm {k : Nat} {a b : Int} (hb : 0 < b) (h : Sm k b) : Sm k (gd a b) := by
  have h1 := gd_le (a := a) hb
  have h2 := gd_pos (a := a) hb
  unfold Sm at *
  omega
theorem gAbs_int {a : Int} : gAbs [.int a] = some (.int (ab a)) := rfl
theorem gTup2 {a b : D} : VS.gTup [a, b] = some (.tup [a, b]) := by
  unfold VS.gTup
  rw [if_pos (by show 2 ≤ 1000000; decide)]
theorem law_low_eq {a b : Int} (hb : 0 < b) (hs : Sm 3000 b) : m_law_low [.val (.int a), .val (.int b)] = some (lowD a b, []) := by
  have h := ll_loop (.val (.int a)) (.val (.int b)) (b.natAbs + 2) (ab a) b (ab_nonneg a) (by omega) (by omega)
  have g1 := gd_pos (a := ab a) hb
  have g2 := (gd_sm (a := ab a) hb hs).bd (by decide)
  simp only [m_law_low, b_law_low, mir, List.length_cons, List.length_nil, Nat.zero_add, Nat.reduceAdd, Nat.reduceSub, List.cons_append, List.nil_append, List.replicate, kS, kPar, aC, aN, sL, sV, gAbs_int, sets, List.set_cons_zero, List.set_cons_succ, kWhile, fuelI, List.getElem?_cons_zero, List.getElem?_cons_succ, h, kRet, s2, gFdiv_eq g1 g2, gTup2, outOf, lowD]
theorem lowest_eq {a b : Int} (hb : 0 < b) (hs : Sm 3000 b) : m_lowest [.val (.int a), .val (.int b)] = some (lowD a b, []) := by
  have h := common_divisor_eq (a := ab a) (b := b) (ab_nonneg a) (by omega)
  have g1 := gd_pos (a := ab a) hb
  have g2 := (gd_sm (a := ab a) hb hs).bd (by decide)
  simp only [m_lowest, b_lowest, mir, List.length_cons, List.length_nil, Nat.zero_add, Nat.reduceAdd, Nat.reduceSub, List.cons_append, List.nil_append, List.replicate, kS, kSet, sCall, aC, aN, sL, sV, gAbs_int, List.map_cons, List.map_nil, if_true, List.set_cons_zero, List.set_cons_succ, List.getElem?_cons_zero, List.getElem?_cons_succ, h, kRet, s2, gFdiv_eq g1 g2, gTup2, outOf, lowD]
end Toy

set_option Elab.async false
set_option linter.all false
set_option maxRecDepth 100000
set_option maxHeartbeats 8000000
namespace Toy
open PySem PySem.Spec PyProof.Rows L2 VS
/-! the purse of draws -/
def PuB (k : Nat) (xs : List D) : Prop := ∃ a b c : Int, xs = [.int a, .int b, .int c] ∧ 0 ≤ a ∧ Sm 1400 a ∧ 0 ≤ b ∧ b < 2147483629 ∧ 0 ≤ c ∧ c ≤ (k : Int)
theorem PuB.mono {k n : Nat} {xs : List D} (h : PuB k xs) (l : k ≤ n) : PuB n xs := by
  obtain ⟨a, b, c, e, h1, h2, h3, h4, h5, h6⟩ := h
  exact ⟨a, b, c, e, h1, h2, h3, h4, h5, by omega⟩
theorem sm_of {k : Nat} {i : Int} (h0 : 0 ≤ i) (h : i < 2 ^ k) : Sm k i := by
  unfold Sm
  have : ((i.natAbs : Nat) : Int) < ((2 ^ k : Nat) : Int) := by
    rw [Int.natAbs_of_nonneg h0]
    push_cast
    exact h
  exact_mod_cast this
theorem sm_mod {k : Nat} {i j : Int} (h0 : 0 < j) (h : j ≤ 2 ^ k) : Sm k (i % j) := sm_of (Int.emod_nonneg i (by omega)) (by have := Int.emod_lt_of_pos i h0; omega)
theorem atI0 {a b c : D} : L2.atI [a, b, c] 0 = some a := rfl
theorem atI1 {a b c : D} : L2.atI [a, b, c] 1 = some b := rfl
theorem atI2 {a b c : D} : L2.atI [a, b, c] 2 = some c := rfl
theorem ixN0 : ixN 3 0 = some 0 := rfl
theorem ixN2 : ixN 3 2 = some 2 := rfl
theorem law_draw_eq {k : Nat} {xs : List D} {m : Int} (h : PuB k xs) (hk : k ≤ 1000000) (hm : 0 < m) (hs : Sm 3000 m) :
    ∃ d ys, m_law_draw [.bor xs, .val (.int m)] = some (.int d, ys) ∧ 0 ≤ d ∧ d < m ∧ PuB (k + 1) ys := by
  obtain ⟨a, b, c, rfl, ha, sa, hb, hb2, hc, hc2⟩ := h
  have bm := hs.bd (by decide)
  by_cases z : 0 < a
  · refine ⟨a % m, [.int (a / m), .int b, .int c], ?_, Int.emod_nonneg _ (by omega), Int.emod_lt_of_pos _ hm, _, _, _, rfl, Int.ediv_nonneg ha (by omega), ?_, hb, hb2, hc, by omega⟩
    · simp only [m_law_draw, b_law_draw, mir, List.length_cons, List.length_nil, Nat.zero_add, Nat.reduceAdd, Nat.reduceSub, List.cons_append, List.nil_append, List.replicate, kS, kIf, sB, s2, sL, aC, aN, sIxM, conM, sK, sV, List.getElem?_cons_zero, List.getElem?_cons_succ, atI0, gGt_int, z, decide_true, kSet, gInt_int, gMod_eq hm, List.set_cons_zero, List.set_cons_succ, kPut, gFdiv_eq hm bm, ixN0, setM, kRet, outOf]
    · have h1 := Int.ediv_le_self m ha
      have h2 : 0 ≤ a / m := Int.ediv_nonneg ha (by omega)
      unfold Sm at *
      omega
  · have st : Sm 21 (c + 1) := sm_of (by omega) (by omega)
    have sb : Sm 31 b := sm_of hb (by omega)
    have s1 : Sm 17 (104729 : Int) := sm_of (by decide) (by decide)
    have s3 : Sm 38 (104729 * (c + 1)) := s1.mul st
    have s4 : Sm 39 (b + 104729 * (c + 1)) := sb.add' s3 (by decide) (by decide)
    have s5 : Sm 42 ((c + 1) * (c + 1)) := st.mul st
    have s6 : Sm 43 ((c + 1) * (c + 1) + 7919) := s5.add' (sm_of (k := 13) (by decide) (by decide)) (by decide) (by decide)
    obtain ⟨u, hu⟩ : ∃ u, u = (b + 104729 * (c + 1)) * ((c + 1) * (c + 1) + 7919) % 2147483629 := ⟨_, rfl⟩
    have su : Sm 31 u := by rw [hu]; exact sm_mod (by decide) (by decide)
    obtain ⟨v, hv⟩ : ∃ v, v = (u * u + (c + 1)) % 2147483587 := ⟨_, rfl⟩
    have sv : Sm 31 v := by rw [hv]; exact sm_mod (by decide) (by decide)
    refine ⟨v * 48271 % 2147483647 / 64 % m, [.int a, .int b, .int (c + 1)], ?_, Int.emod_nonneg _ (by omega), Int.emod_lt_of_pos _ hm, _, _, _, rfl, ha, sa, hb, hb2, by omega, by omega⟩
    have b1 := s1.bd (by decide)
    have b2 := st.bd (by decide)
    have b3 := s4.bd (by decide)
    have b4 := s6.bd (by decide)
    have b5 := su.bd (by decide)
    have b6 := sv.bd (by decide)
    have b7 : Bd 48271 := (sm_of (k := 20) (by decide) (by decide) : Sm 20 48271).bd (by decide)
    have b8 : Bd 64 := (sm_of (k := 20) (by decide) (by decide) : Sm 20 64).bd (by decide)
    have p1 : (0 : Int) < 2147483629 := by decide
    have p2 : (0 : Int) < 2147483587 := by decide
    have p3 : (0 : Int) < 2147483647 := by decide
    have p4 : (0 : Int) < 64 := by decide
    simp only [m_law_draw, b_law_draw, mir, List.length_cons, List.length_nil, Nat.zero_add, Nat.reduceAdd, Nat.reduceSub, List.cons_append, List.nil_append, List.replicate, kS, kIf, sB, s2, sL, aC, aN, sIxM, conM, sK, sV, List.getElem?_cons_zero, List.getElem?_cons_succ, atI0, atI1, atI2, gGt_int, z, decide_false, kSet, kN, gInt_int, gAdd_eq, List.set_cons_zero, List.set_cons_succ, kPut, ixN2, setM, gMul_eq b1 b2, gMul_eq b2 b2, gMul_eq b3 b4, gMod_eq p1, ← hu, gMul_eq b5 b5, gMod_eq p2, ← hv, gMul_eq b6 b7, gMod_eq p3, gFdiv_eq p4 b8, gMod_eq hm, kRet, outOf]
theorem law_pick_eq {k : Nat} {xs : List D} {its : List D} (h : PuB k xs) (hk : k ≤ 1000000) (hl : 0 < its.length) (hl2 : its.length < 1000000) :
    ∃ (d : Nat) (x : D) (ys : List D), m_law_pick [.bor xs, .val (.lst its)] = some (x, ys) ∧ its[d]? = some x ∧ PuB (k + 1) ys := by
  obtain ⟨d, ys, e, h0, h1, hp⟩ := law_draw_eq (m := its.length) h hk (by omega) ((sm_of (k := 20) (by omega) (by omega)).mono (by decide))
  obtain ⟨n, rfl⟩ := Int.eq_ofNat_of_zero_le h0
  have hn : n < its.length := by omega
  refine ⟨n, its[n], ys, ?_, by simp [hn], hp⟩
  obtain ⟨a, b, c, rfl, _⟩ := h
  have e2 : its[n]? = some its[n] := by simp [hn]
  have e3 : gLen [.lst its] = some (.int its.length) := rfl
  simp only [m_law_pick, b_law_pick, mir, List.length_cons, List.length_nil, Nat.zero_add, Nat.reduceAdd, Nat.reduceSub, List.cons_append, List.nil_append, List.replicate, kRet, s2, sV, sCallM, conM, aC, aN, sL, e3, List.map_cons, List.map_nil, List.getElem?_cons_zero, List.getElem?_cons_succ, if_true, e, setM, List.set_cons_zero, gIx_lst, atI_nat, e2, outOf]
theorem pow_a : gPow (.int 10) (.int 18) = some (.int (10 ^ 18)) := by kernel_rfl
theorem pow_b : gPow (.int 10) (.int 40) = some (.int (10 ^ 40)) := by kernel_rfl
theorem pow_c : gPow (.int (10 ^ 40)) (.int 10) = some (.int (10 ^ 400)) := by kernel_rfl
theorem gMax2 {i j : Int} : gMax [.int i, .int j] = some (.int (if j > i then j else i)) := rfl
theorem purse_tail (cell : Int) : ∃ x y : Int, (∀ ρ : Rho, ρ[2]? = some (.val (.int cell)) → kRetL (aC (s2 gMod (sL gInt (aC (sL gMax (aC (s2 gSub (sV 2) (s2 gPow (sK (.int 10)) (sK (.int 18)))) (aC (sK (.int 0)) aN))) aN)) (s2 gPow (s2 gPow (sK (.int 10)) (sK (.int 40))) (sK (.int 10)))) (aC (s2 gMod (sL gInt (aC (sV 2) aN)) (sK (.int 2147483629))) (aC (sK (.int 0)) aN))) ρ = some (.rm [.int x, .int y, .int 0], ρ)) ∧ PuB 0 [.int x, .int y, .int 0] := by
  have p0 : (0 : Int) < 10 ^ 400 := by decide +kernel
  have p1 : (0 : Int) < 2147483629 := by decide
  have p2 : (10 : Int) ^ 400 ≤ 2 ^ 1400 := by decide +kernel
  refine ⟨(if 0 > cell - 10 ^ 18 then 0 else cell - 10 ^ 18) % 10 ^ 400, cell % 2147483629, fun ρ h => ?_, _, _, _, rfl, Int.emod_nonneg _ (by omega), sm_mod p0 p2, Int.emod_nonneg _ (by decide), Int.emod_lt_of_pos _ p1, by decide, by decide⟩
  simp only [kRetL, aC, aN, sL, s2, sV, sK, h, pow_a, pow_b, pow_c, gSub_eq, gMax2, gInt_int, gMod_eq p0, gMod_eq p1, List.length_cons, List.length_nil]
  rw [if_pos (by show 3 ≤ 1000000; decide)]
theorem law_purse_eq (ns : List Int) (i : Nat) : ∃ xs, m_law_purse [.val (.scr (ns.map .int)), .val (.int i)] = some xs ∧ PuB 0 xs := by
  have e3 : gLen [.scr (ns.map .int)] = some (.int ns.length) := by
    show some (D.int ((ns.map D.int).length : Int)) = _
    rw [List.length_map]
  by_cases z : (i : Int) < ns.length
  · have hi : i < ns.length := by omega
    obtain ⟨x, y, h, hp⟩ := purse_tail ns[i]
    have e2 : (ns.map D.int)[i]? = some (.int ns[i]) := by simp [hi]
    refine ⟨_, ?_, hp⟩
    simp only [m_law_purse, b_law_purse, mirM, List.length_cons, List.length_nil, Nat.zero_add, Nat.reduceAdd, Nat.reduceSub, List.cons_append, List.nil_append, List.replicate, kS, kSet, kIf, sB, s2, sL, aC, aN, sK, sV, List.getElem?_cons_zero, List.getElem?_cons_succ, List.set_cons_zero, List.set_cons_succ, e3, gLt_int, z, decide_true]
    have e4 : gIx (.scr (ns.map .int)) (.int i) = some (.int ns[i]) := by
      show L2.atI (ns.map D.int) (i : Int) = _
      rw [atI_nat, e2]
    simp only [e4, List.set_cons_zero, List.set_cons_succ]
    have h' := h [Sl.val (D.scr (ns.map .int)), Sl.val (D.int i), Sl.val (D.int ns[i])] rfl
    simp only [kRetL, aC, aN, sL, s2, sV, sK] at h' ⊢
    rw [h']
  · obtain ⟨x, y, h, hp⟩ := purse_tail 0
    refine ⟨_, ?_, hp⟩
    simp only [m_law_purse, b_law_purse, mirM, List.length_cons, List.length_nil, Nat.zero_add, Nat.reduceAdd, Nat.reduceSub, List.cons_append, List.nil_append, List.replicate, kS, kSet, kIf, kN, sB, s2, sL, aC, aN, sK, sV, List.getElem?_cons_zero, List.getElem?_cons_succ, List.set_cons_zero, List.set_cons_succ, e3, gLt_int, z, decide_false]
    have h' := h [Sl.val (D.scr (ns.map .int)), Sl.val (D.int i), Sl.val (D.int 0)] rfl
    simp only [kRetL, aC, aN, sL, s2, sV, sK] at h' ⊢
    rw [h']
end Toy

set_option Elab.async false
set_option linter.all false
set_option maxRecDepth 100000
set_option maxHeartbeats 8000000
namespace Toy
open PySem PySem.Spec PyProof.Rows L2 VS
def lc1 (f n : Int) : Int := f / gd f n * n
def lcmF : Int → List Int → Int
  | f, [] => f
  | f, n :: r => lcmF (lc1 f n) r
def lcmL (ns : List Int) : Int := lcmF 1 ns
theorem lc1_pos {f n : Int} (hf : 0 < f) (hn : 0 < n) : 0 < lc1 f n := by
  have g := gd_pos (a := f) hn
  have h : 0 < f / gd f n := Int.ediv_pos_of_pos_of_dvd hf (by omega) (gd_dvd_l f n)
  exact Int.mul_pos h hn
theorem lc1_dvd_l {f n : Int} : f ∣ lc1 f n := by
  obtain ⟨k, hk⟩ := gd_dvd_r f n
  refine ⟨k, ?_⟩
  unfold lc1
  have h := Int.ediv_mul_cancel (gd_dvd_l f n)
  calc f / gd f n * n = f / gd f n * (gd f n * k) := by rw [← hk]
    _ = f / gd f n * gd f n * k := by rw [Int.mul_assoc]
    _ = f * k := by rw [h]
theorem lc1_dvd_r {f n : Int} : n ∣ lc1 f n := ⟨f / gd f n, Int.mul_comm _ _⟩
theorem lc1_sm {k : Nat} {f n : Int} (hf : 0 < f) (hn : 0 < n) (h1 : Sm k f) (h2 : Sm 60 n) : Sm (k + 60) (lc1 f n) := by
  have g := gd_pos (a := f) hn
  have a1 := Int.ediv_le_self (gd f n) (Int.le_of_lt hf)
  have a2 : 0 ≤ f / gd f n := Int.ediv_nonneg (by omega) (by omega)
  have : Sm k (f / gd f n) := by
    unfold Sm at *
    omega
  exact this.mul h2
theorem lcmF_pos : ∀ {ns : List Int} {f : Int}, 0 < f → (∀ n ∈ ns, 0 < n) → 0 < lcmF f ns
  | [], _, h, _ => h
  | n :: r, f, h, q => lcmF_pos (ns := r) (lc1_pos h (q n List.mem_cons_self)) fun m hm => q m (List.mem_cons_of_mem _ hm)
theorem lcmF_dvd : ∀ {ns : List Int} {f : Int}, f ∣ lcmF f ns
  | [], f => Int.dvd_refl f
  | n :: r, f => Int.dvd_trans lc1_dvd_l (lcmF_dvd (ns := r))
theorem lcmF_mem : ∀ {ns : List Int} {f n : Int}, n ∈ ns → n ∣ lcmF f ns
  | m :: r, f, n, h => by
    rcases List.mem_cons.mp h with e | h
    · subst e; exact Int.dvd_trans lc1_dvd_r (lcmF_dvd (ns := r))
    · exact lcmF_mem (ns := r) h
theorem lcmF_sm : ∀ {ns : List Int} {k : Nat} {f : Int}, 0 < f → Sm k f → (∀ n ∈ ns, 0 < n ∧ Sm 60 n) → Sm (k + 60 * ns.length) (lcmF f ns)
  | [], k, f, _, h, _ => h
  | n :: r, k, f, h0, h, q => by
    have q1 := q n List.mem_cons_self
    have := lcmF_sm (ns := r) (lc1_pos h0 q1.1) (lc1_sm h0 q1.1 h q1.2) fun m hm => q m (List.mem_cons_of_mem _ hm)
    rw [show k + 60 * (n :: r).length = k + 60 + 60 * r.length by simp; omega]
    exact this
theorem cm_loop (L : Sl) : ∀ (ns : List Int) (k : Nat) (f : Int) (x : Sl), 0 < f → Sm k f → (∀ n ∈ ns, 0 < n ∧ Sm 60 n) → k + 60 * ns.length ≤ 3900 →
    ∃ y, kLoop (.nm 2) (kSet 1 (s2 gMul (s2 gFdiv (sV 1) (sCall 2 m_common_divisor (aC (sV 1) (aC (sV 2) aN)))) (sV 2))) (ns.map .int) [L, .val (.int f), x] = some (.nx, [L, .val (.int (lcmF f ns)), y])
  | [], k, f, x, _, _, _, _ => ⟨x, rfl⟩
  | n :: r, k, f, x, h0, h, q, hk => by
    have q1 := q n List.mem_cons_self
    have hk' : k + 60 + 60 * r.length ≤ 3900 := by simp at hk; omega
    obtain ⟨y, e⟩ := cm_loop L r (k + 60) (lc1 f n) (.val (.int n)) (lc1_pos h0 q1.1) (lc1_sm h0 q1.1 h q1.2) (fun m hm => q m (List.mem_cons_of_mem _ hm)) hk'
    refine ⟨y, ?_⟩
    have g1 := gd_pos (a := f) q1.1
    have g2 := (gd_sm (a := f) q1.1 q1.2).bd (by decide)
    have g3 : Bd (f / gd f n) := by
      have a1 := Int.ediv_le_self (gd f n) (Int.le_of_lt h0)
      have a2 : 0 ≤ f / gd f n := Int.ediv_nonneg (by omega) (by omega)
      have : Sm k (f / gd f n) := by
        unfold Sm at *
        omega
      exact this.bd (by omega)
    rw [List.map_cons]
    unfold kLoop
    simp only [tgt, List.set_cons_zero, List.set_cons_succ, kSet, s2, sV, sCall, aC, aN, List.getElem?_cons_zero, List.getElem?_cons_succ, List.map_cons, List.map_nil, List.length_cons, List.length_nil, if_true, common_divisor_eq (Int.le_of_lt h0) (Int.le_of_lt q1.1), gFdiv_eq g1 g2, gMul_eq g3 (q1.2.bd (by decide))]
    exact e
theorem common_multiple_eq {ns : List Int} (h : ∀ n ∈ ns, 0 < n ∧ Sm 60 n) (hl : ns.length ≤ 60) : m_common_multiple [.val (.lst (ns.map .int))] = some (.int (lcmL ns), []) := by
  obtain ⟨y, e⟩ := cm_loop (.val (.lst (ns.map .int))) ns 1 1 .no (by decide) (sm_of (by decide) (by decide)) h (by omega)
  simp only [m_common_multiple, b_common_multiple, mir, List.length_cons, List.length_nil, Nat.zero_add, Nat.reduceAdd, Nat.reduceSub, List.cons_append, List.nil_append, List.replicate, kS, kSet, sK, kFor, iSeq, sV, List.set_cons_zero, List.set_cons_succ, List.getElem?_cons_zero, List.getElem?_cons_succ, e, kRet, outOf, lcmL]
/-! comprehensions that change nothing -/
theorem cLoop_fm {t : Tg} {tt : SB} {e : SE} {ρ : Rho} {f : D → Option D} : ∀ {ds : List D}, (∀ d ∈ ds, turnC t tt e d ρ = some (f d, ρ)) → cLoop t tt e ds ρ = some (ds.filterMap f, ρ)
  | [], _ => rfl
  | d :: r, h => by
    unfold cLoop
    rw [h d List.mem_cons_self, List.filterMap_cons]
    have ih := cLoop_fm (f := f) (ds := r) fun m hm => h m (List.mem_cons_of_mem _ hm)
    cases e : f d with
    | none => simp only [ih]
    | some x => simp only [ih]
theorem cLoop_map {α : Type} {t : Tg} {tt : SB} {e : SE} {ρ : Rho} {g : α → D} {f : α → D} : ∀ {ds : List α}, (∀ d ∈ ds, turnC t tt e (g d) ρ = some (some (f d), ρ)) → cLoop t tt e (ds.map g) ρ = some (ds.map f, ρ)
  | [], _ => rfl
  | d :: r, h => by
    have ih := cLoop_map (g := g) (f := f) (ds := r) fun m hm => h m (List.mem_cons_of_mem _ hm)
    simp only [List.map_cons, cLoop, h d List.mem_cons_self, ih]
def Steps (ns : Nt) : Prop := (∀ s ∈ ns, 0 < s.p ∧ Sm 60 s.p ∧ Sm 60 s.l) ∧ ns.length ≤ 60
def turns (ns : Nt) : List Int := ns.map (·.p)
theorem whole_turn_eq {ns : Nt} (h : Steps ns) : m_whole_turn [.val (netD ns)] = some (.int (lcmL (turns ns)), []) := by
  have e := common_multiple_eq (ns := turns ns) (fun n hn => by
    obtain ⟨s, hs, rfl⟩ := List.mem_map.mp hn
    exact ⟨(h.1 s hs).1, (h.1 s hs).2.1⟩) (by simp [turns]; exact h.2)
  have c := cLoop_map (t := .nm 1) (tt := bYes) (e := s1 (gFld 0 1) (sV 1)) (ρ := [.val (netD ns), .no]) (g := stpD) (f := fun s => D.int s.p) (ds := ns) fun s _ => by
    simp only [turnC, okT, Tg.ix, List.all_cons, List.all_nil, List.getElem?_cons_succ, List.getElem?_cons_zero, Bool.and_true, if_true, blkR, wipeR, toB, List.map_cons, List.map_nil, tgt, List.set_cons_succ, List.set_cons_zero, bYes, s1, sV, turn_eq, restore, Option.map_some]
  have el : ns.map (fun s => D.int s.p) = (turns ns).map .int := by simp [turns]
  rw [el] at c
  have hl : ((turns ns).map D.int).length ≤ LN := by
    rw [List.length_map]
    have := h.2
    show (ns.map _).length ≤ 1000000
    rw [List.length_map]
    omega
  simp only [m_whole_turn, b_whole_turn, mir, List.length_cons, List.length_nil, Nat.zero_add, Nat.reduceAdd, Nat.reduceSub, List.cons_append, List.nil_append, List.replicate, kRet, sCall, aC, aN, sComp, iTupl, s1, sV, List.getElem?_cons_zero, List.getElem?_cons_succ, nodes_eq, c]
  rw [if_pos hl]
  simp only [List.map_cons, List.map_nil, List.length_cons, List.length_nil, Nat.zero_add, if_true, e, outOf]
theorem runs_in_turn_eq {ns : Nt} {i : Nat} {s : Stp} (h : Steps ns) (hi : ns[i]? = some s) : m_runs_in_turn [.val (netD ns), .val (.int i)] = some (.int (lcmL (turns ns) / s.p), []) := by
  have e1 := map_get (f := stpD) hi
  have hm := h.1 s (List.mem_of_getElem? hi)
  have e2 := whole_turn_eq h
  have b := hm.2.1.bd (by decide)
  simp only [m_runs_in_turn, b_runs_in_turn, mir, List.length_cons, List.length_nil, Nat.zero_add, Nat.reduceAdd, Nat.reduceSub, List.cons_append, List.nil_append, List.replicate, kRet, sCall, aC, aN, s1, s2, sV, List.getElem?_cons_zero, List.getElem?_cons_succ, List.map_cons, List.map_nil, if_true, nodes_eq, e2, gIx_tup, atI_nat, e1, turn_eq, gFdiv_eq hm.1 b, outOf]
end Toy

set_option Elab.async false
set_option linter.all false
set_option maxRecDepth 100000
set_option maxHeartbeats 8000000
namespace Toy
open PySem PySem.Spec PyProof.Rows L2 VS
/-! the runs of a path -/
structure Ask (ns : Nt) (S : List Int) (sc : Int) (P : List Nat) (m : Nat) : Prop where
  st : Steps ns
  len : S.length = ns.length
  bS : ∀ x ∈ S, Sm 500 x
  c0 : 0 < sc
  bc : Sm 400 sc
  pl : P.length = m + 1
  pm : m ≤ 6
  pi : ∀ i ∈ P, i < ns.length
  lc : lcmL (turns ns) ≤ 100000
def rr (ns : Nt) (S : List Int) (sc : Int) (r q : Nat) (run : Int) : Int := (ss S r + run * pp ns r * sc - ss S q - ll ns q * sc) / (pp ns q * sc)
def atP (P : List Nat) (i : Nat) : Nat := (P[i]?).getD 0
def carry (ns : Nt) (S : List Int) (sc : Int) (P : List Nat) : Nat → Int → Int
  | 0, run => run
  | k + 1, run => carry ns S sc P k (rr ns S sc (atP P (k + 1)) (atP P k) run)
section
variable {ns : Nt} {S : List Int} {sc : Int} {P : List Nat} {m : Nat}
theorem Ask.step (A : Ask ns S sc P m) {i : Nat} (h : i < ns.length) : ∃ s, ns[i]? = some s ∧ pp ns i = s.p ∧ ll ns i = s.l ∧ 0 < s.p ∧ Sm 60 s.p ∧ Sm 60 s.l := by
  have e : ns[i]? = some ns[i] := by simp [h]
  have q := A.st.1 ns[i] (List.getElem_mem h)
  exact ⟨ns[i], e, by simp [pp, e], by simp [ll, e], q⟩
theorem Ask.start (A : Ask ns S sc P m) {i : Nat} (h : i < ns.length) : ∃ x, S[i]? = some x ∧ ss S i = x ∧ Sm 500 x := by
  have h2 : i < S.length := by rw [A.len]; exact h
  have e : S[i]? = some S[i] := by simp [h2]
  exact ⟨S[i], e, by simp [ss, e], A.bS _ (List.getElem_mem h2)⟩
theorem Ask.place (A : Ask ns S sc P m) {i : Nat} (h : i ≤ m) : P[i]? = some (atP P i) ∧ atP P i < ns.length := by
  have h2 : i < P.length := by rw [A.pl]; omega
  have e : P[i]? = some P[i] := by simp [h2]
  have e2 : atP P i = P[i] := by simp [atP, e]
  rw [e2]
  exact ⟨e, A.pi _ (List.getElem_mem h2)⟩
theorem Ask.read (A : Ask ns S sc P m) {r q b : Nat} {run : Int} (hr : r < ns.length) (hq : q < ns.length) (h : Sm b run) (hb : 100 ≤ b) (hb2 : b ≤ 3400) :
    m_run_read [.val (netD ns), .val (.lst (S.map .int)), .val (.int sc), .val (.int r), .val (.int q), .val (.int run)] = some (.int (rr ns S sc r q run), []) ∧ Sm (b + 465) (rr ns S sc r q run) := by
  obtain ⟨s, e1, p1, l1, h1, h2, h3⟩ := A.step hr
  obtain ⟨t, e2, p2, l2, g1, g2, g3⟩ := A.step hq
  obtain ⟨x, e3, x1, x2⟩ := A.start hr
  obtain ⟨y, e4, y1, y2⟩ := A.start hq
  have pos : 0 < t.p * sc := Int.mul_pos g1 A.c0
  unfold rr
  rw [p1, p2, l2, x1, y1]
  refine ⟨run_read_eq e1 e2 e3 e4 (h.bd (by omega)) (h2.bd (by decide)) ((h.mul h2).bd (by omega)) (A.bc.bd (by decide)) (g3.bd (by decide)) (g2.bd (by decide)) pos ((g2.mul A.bc).bd (by decide)), ?_⟩
  have k1 := (h.mul h2).mul A.bc
  have k2 : Sm (b + 461) (x + run * s.p * sc) := x2.add' k1 (by omega) (by omega)
  have k3 : Sm (b + 462) (x + run * s.p * sc - y) := k2.sub' y2 (by omega) (by omega)
  have k4 : Sm (b + 463) (x + run * s.p * sc - y - t.l * sc) := k3.sub' (g3.mul A.bc) (by omega) (by omega)
  exact (k4.div pos).mono (by omega)
theorem rngD_succ (k : Nat) : rngD ((k + 1 : Nat) : Int) (k + 1) = .int ((k + 1 : Nat) : Int) :: rngD (k : Int) k := by
  unfold rngD
  rw [List.range_succ_eq_map, List.map_cons, List.map_map]
  have e : ((fun i : Nat => D.int (((k + 1 : Nat) : Int) - (i : Nat))) ∘ Nat.succ) = fun i : Nat => D.int ((k : Int) - (i : Nat)) := by
    funext i
    simp only [Function.comp_apply]
    congr 1
    omega
  rw [e]
  rfl
theorem gIx_nat {xs : List D} {i : Nat} : gIx (.lst xs) (.int (i : Nat)) = xs[i]? := atI_nat xs i
theorem rc_loop (A : Ask ns S sc P m) : ∀ (k b : Nat) (run : Int) (x : Sl), k ≤ m → Sm b run → 100 ≤ b → b + 465 * k ≤ 3400 →
    ∃ y, kLoop (.nm 5) (kSet 4 (sCall 6 m_run_read (aC (sV 0) (aC (sV 1) (aC (sV 2) (aC (s2 gIx (sV 3) (sV 5)) (aC (s2 gIx (sV 3) (s2 gSub (sV 5) (sK (.int 1)))) (aC (sV 4) aN)))))))) (rngD (k : Int) k)
      [.val (netD ns), .val (.lst (S.map .int)), .val (.int sc), .val (.lst (P.map fun i => .int (i : Nat))), .val (.int run), x] = some (.nx, [.val (netD ns), .val (.lst (S.map .int)), .val (.int sc), .val (.lst (P.map fun i => .int (i : Nat))), .val (.int (carry ns S sc P k run)), y])
      ∧ Sm (b + 465 * k) (carry ns S sc P k run)
  | 0, b, run, x, _, h, _, _ => ⟨x, rfl, h⟩
  | k + 1, b, run, x, hk, h, hb, hb2 => by
    obtain ⟨q1, q2⟩ := A.place hk
    obtain ⟨r1, r2⟩ := A.place (i := k) (by omega)
    obtain ⟨c1, c2⟩ := A.read q2 r2 h hb (by omega)
    obtain ⟨y, e, e2⟩ := rc_loop A k (b + 465) (rr ns S sc (atP P (k + 1)) (atP P k) run) (.val (.int ((k + 1 : Nat) : Int))) (by omega) c2 (by omega) (by omega)
    refine ⟨y, ?_, by unfold carry; rw [show b + 465 * (k + 1) = b + 465 + 465 * k by omega]; exact e2⟩
    have s1 : ((k + 1 : Nat) : Int) - 1 = (k : Nat) := by omega
    have m1 := map_get (f := fun i : Nat => D.int (i : Nat)) q1
    have m2 := map_get (f := fun i : Nat => D.int (i : Nat)) r1
    rw [rngD_succ]
    unfold kLoop
    simp only [tgt, List.set_cons_zero, List.set_cons_succ, kSet, s2, sV, sK, sCall, aC, aN, List.getElem?_cons_zero, List.getElem?_cons_succ, gIx_nat, gSub_eq, s1, m1, m2, List.map_cons, List.map_nil, List.length_cons, List.length_nil, if_true, c1]
    exact e
theorem gLen_lst {xs : List D} : gLen [.lst xs] = some (.int xs.length) := rfl
theorem gNeg_int {a : Int} : gNeg (.int a) = some (.int (-a)) := rfl
theorem run_carried_eq (A : Ask ns S sc P m) {b : Nat} {run : Int} (h : Sm b run) (hb : 100 ≤ b) (hb2 : b ≤ 600) :
    m_run_carried [.val (netD ns), .val (.lst (S.map .int)), .val (.int sc), .val (.lst (P.map fun i => .int (i : Nat))), .val (.int run)] = some (.int (carry ns S sc P m run), []) ∧ Sm 3400 (carry ns S sc P m run) := by
  have pm := A.pm
  obtain ⟨y, e, e2⟩ := rc_loop A m b run .no (Nat.le_refl _) h hb (by omega)
  refine ⟨?_, e2.mono (by omega)⟩
  have l1 : ((P.map fun i => D.int (i : Nat)).length : Int) - 1 = (m : Nat) := by rw [List.length_map, A.pl]; omega
  have l2 : small62 (m : Int) := ⟨by omega, by omega⟩
  have l4 : small62 0 := ⟨by decide, by decide⟩
  have l3 : ((m : Int) - 0).toNat = m := by omega
  simp only [m_run_carried, b_run_carried, mir, List.length_cons, List.length_nil, Nat.zero_add, Nat.reduceAdd, Nat.reduceSub, List.cons_append, List.nil_append, List.replicate, kS, kFor, iRD, aC, aN, s2, s1, sL, sV, sK, List.getElem?_cons_zero, List.getElem?_cons_succ, gLen_lst, gNeg_int, gSub_eq, l1, l2, l4, and_self, if_true, l3, e, kRet, outOf]
end
end Toy

set_option Elab.async false
set_option linter.all false
set_option maxRecDepth 100000
set_option maxHeartbeats 8000000
namespace Toy
open PySem PySem.Spec PyProof.Rows L2 VS
section
variable {ns : Nt} {S : List Int} {sc : Int} {P : List Nat} {m : Nat}
def manyR (ns : Nt) (P : List Nat) (m : Nat) : Nat := (lcmL (turns ns) / pp ns (atP P m)).toNat
theorem turns_pos (h : Steps ns) : 0 < lcmL (turns ns) := lcmF_pos (by decide) fun n hn => by
  obtain ⟨s, hs, rfl⟩ := List.mem_map.mp hn
  exact (h.1 s hs).1
theorem Ask.many (A : Ask ns S sc P m) {i : Nat} (h : i ≤ m) : lcmL (turns ns) / pp ns (atP P i) = (((lcmL (turns ns) / pp ns (atP P i)).toNat : Nat) : Int) ∧ (lcmL (turns ns) / pp ns (atP P i)).toNat ≤ 100000 := by
  obtain ⟨q1, q2⟩ := A.place h
  obtain ⟨s, e1, p1, l1, h1, h2, h3⟩ := A.step q2
  have t := turns_pos A.st
  have t2 := A.lc
  rw [p1]
  have a1 := Int.ediv_le_self s.p (Int.le_of_lt t)
  have a2 : 0 ≤ lcmL (turns ns) / s.p := Int.ediv_nonneg (by omega) (by omega)
  omega
theorem atI_m1 {α : Type} {xs : List α} {k : Nat} (h : xs.length = k + 1) : L2.atI xs (-1) = xs[k]? := by
  unfold L2.atI L2.ixN
  rw [if_neg (by decide), if_pos (by omega)]
  show xs[(-1 + (xs.length : Int)).toNat]? = xs[k]?
  congr 1
  omega
theorem Ask.runs (A : Ask ns S sc P m) {i : Nat} (h : i ≤ m) : m_runs_in_turn [.val (netD ns), .val (.int ((atP P i : Nat) : Int))] = some (.int (lcmL (turns ns) / pp ns (atP P i)), []) := by
  obtain ⟨q1, q2⟩ := A.place h
  obtain ⟨s, e1, p1, _⟩ := A.step q2
  rw [p1]
  exact runs_in_turn_eq A.st e1
theorem Ask.last (A : Ask ns S sc P m) : gIx (.lst (P.map fun i => D.int (i : Nat))) (.int (-1)) = some (.int (atP P m : Nat)) := by
  show L2.atI _ _ = _
  rw [atI_m1 (k := m) (by rw [List.length_map]; exact A.pl)]
  exact map_get (A.place (Nat.le_refl _)).1
theorem Ask.first (A : Ask ns S sc P m) : gIx (.lst (P.map fun i => D.int (i : Nat))) (.int 0) = some (.int (atP P 0 : Nat)) := by
  show L2.atI _ ((0 : Nat) : Int) = _
  rw [atI_nat]
  exact map_get (A.place (Nat.zero_le _)).1
end
end Toy

set_option Elab.async false
set_option linter.all false
set_option maxRecDepth 100000
set_option maxHeartbeats 8000000
namespace Toy
open PySem PySem.Spec PyProof.Rows L2 VS
theorem mir_rt {n : Nat} {s : SS} {sl : List Sl} {ρ0 ρ : Rho} {d : D} {o : List D} (h0 : sl ++ List.replicate (n - sl.length) .no = ρ0) (h : s ρ0 = some (.rt d, ρ)) (ho : outOf sl ρ = some o) : mir n s sl = some (d, o) := by
  unfold mir
  rw [h0, h]
  simp only [ho]
theorem mir_nx {n : Nat} {s : SS} {sl : List Sl} {ρ0 ρ : Rho} {o : List D} (h0 : sl ++ List.replicate (n - sl.length) .no = ρ0) (h : s ρ0 = some (.nx, ρ)) (ho : outOf sl ρ = some o) : mir n s sl = some (.non, o) := by
  unfold mir
  rw [h0, h]
  simp only [ho]
theorem kS_nx {a b : SS} {ρ ρ1 : Rho} {r : Option (Fl × Rho)} (h : a ρ = some (.nx, ρ1)) (h2 : b ρ1 = r) : kS a b ρ = r := by
  unfold kS
  rw [h]
  exact h2
theorem kRet_of {e : SE} {ρ ρ1 : Rho} {d : D} (h : e ρ = some (d, ρ1)) : kRet e ρ = some (.rt d, ρ1) := by
  unfold kRet
  rw [h]
theorem kSet_of {i : Nat} {e : SE} {ρ ρ1 : Rho} {d : D} (h : e ρ = some (d, ρ1)) : kSet i e ρ = some (.nx, ρ1.set i (.val d)) := by
  unfold kSet
  rw [h]
theorem kDrop_of {e : SE} {ρ ρ1 : Rho} {d : D} (h : e ρ = some (d, ρ1)) : kDrop e ρ = some (.nx, ρ1) := by
  unfold kDrop
  rw [h]
theorem kIf_f {t : SB} {a b : SS} {ρ ρ1 : Rho} {r : Option (Fl × Rho)} (h : t ρ = some (false, ρ1)) (h2 : b ρ1 = r) : kIf t a b ρ = r := by
  unfold kIf
  rw [h]
  exact h2
theorem kIf_t {t : SB} {a b : SS} {ρ ρ1 : Rho} {r : Option (Fl × Rho)} (h : t ρ = some (true, ρ1)) (h2 : a ρ1 = r) : kIf t a b ρ = r := by
  unfold kIf
  rw [h]
  exact h2
theorem sComp_of {it : SI} {t : Tg} {tt : SB} {e : SE} {ρ ρ1 ρ2 : Rho} {ds out : List D} (hi : it ρ = some (ds, ρ1)) (hc : cLoop t tt e ds ρ1 = some (out, ρ2)) (hl : out.length ≤ LN) : sComp it t tt e ρ = some (.lst out, ρ2) := by
  unfold sComp
  rw [hi]
  simp only [hc]
  rw [if_pos hl]
theorem kFor_of {it : SI} {t : Tg} {b : SS} {ρ ρ1 : Rho} {ds : List D} {r : Option (Fl × Rho)} (hi : it ρ = some (ds, ρ1)) (h : kLoop t b ds ρ1 = r) : kFor it t b ρ = r := by
  unfold kFor
  rw [hi]
  exact h
theorem s1_of {g : G1} {a : SE} {ρ ρ1 : Rho} {x d : D} (h : a ρ = some (x, ρ1)) (hg : g x = some d) : s1 g a ρ = some (d, ρ1) := by
  unfold s1
  rw [h]
  simp only [hg]
theorem s2_of {g : G2} {a b : SE} {ρ ρ1 ρ2 : Rho} {x y d : D} (h : a ρ = some (x, ρ1)) (h2 : b ρ1 = some (y, ρ2)) (hg : g x y = some d) : s2 g a b ρ = some (d, ρ2) := by
  unfold s2
  rw [h]
  simp only [h2, hg]
theorem sL_of {g : GL} {a : SA} {ρ ρ1 : Rho} {xs : List D} {d : D} (h : a ρ = some (xs, ρ1)) (hg : g xs = some d) : sL g a ρ = some (d, ρ1) := by
  unfold sL
  rw [h]
  simp only [hg]
theorem aC_of {a : SE} {r : SA} {ρ ρ1 ρ2 : Rho} {x : D} {xs : List D} (h : a ρ = some (x, ρ1)) (h2 : r ρ1 = some (xs, ρ2)) : aC a r ρ = some (x :: xs, ρ2) := by
  unfold aC
  rw [h]
  simp only [h2]
theorem sCall_of {n : Nat} {m : Mir} {a : SA} {ρ ρ1 : Rho} {xs : List D} {d : D} {o : List D} (h : a ρ = some (xs, ρ1)) (hn : xs.length = n) (hm : m (xs.map .val) = some (d, o)) : sCall n m a ρ = some (d, ρ1) := by
  unfold sCall
  rw [h]
  simp only [hn, if_true, hm]
theorem sB_of {s : SE} {ρ ρ1 : Rho} {b : Bool} (h : s ρ = some (.bl b, ρ1)) : sB s ρ = some (b, ρ1) := by
  unfold sB
  rw [h]
section
variable {ns : Nt} {S : List Int} {sc : Int} {P : List Nat} {m : Nat}
theorem carried_comp (A : Ask ns S sc P m) : cLoop (.nm 5) bYes (sCall 5 m_run_carried (aC (sV 0) (aC (sV 1) (aC (sV 2) (aC (sV 3) (aC (sV 5) aN)))))) ((List.range (manyR ns P m + 1)).map fun i : Nat => D.int (-1 + (i : Nat)))
    [.val (netD ns), .val (.lst (S.map .int)), .val (.int sc), .val (.lst (P.map fun i => .int (i : Nat))), .val (.int (manyR ns P m : Nat)), .no] = some ((List.range (manyR ns P m + 1)).map fun i : Nat => D.int (carry ns S sc P m (-1 + (i : Nat))),
    [.val (netD ns), .val (.lst (S.map .int)), .val (.int sc), .val (.lst (P.map fun i => .int (i : Nat))), .val (.int (manyR ns P m : Nat)), .no]) := by
  obtain ⟨n1, n2⟩ := A.many (Nat.le_refl m)
  refine cLoop_map fun i hi => ?_
  have hi' : i < manyR ns P m + 1 := List.mem_range.mp hi
  have sm : Sm 100 (-1 + (i : Int)) := by
    have q : (manyR ns P m : Nat) ≤ 100000 := n2
    have z : (100001 : Nat) < 2 ^ 100 := by decide
    unfold Sm
    omega
  obtain ⟨e, _⟩ := run_carried_eq A sm (by decide) (by decide)
  simp only [turnC, okT, Tg.ix, List.all_cons, List.all_nil, List.getElem?_cons_succ, List.getElem?_cons_zero, Bool.and_true, if_true, blkR, wipeR, toB, List.map_cons, List.map_nil, tgt, List.set_cons_succ, List.set_cons_zero, bYes, sCall, aC, aN, sV, List.length_cons, List.length_nil, Nat.zero_add, e, restore, Option.map_some]
theorem all_carried_eq (A : Ask ns S sc P m) : m_all_carried [.val (netD ns), .val (.lst (S.map .int)), .val (.int sc), .val (.lst (P.map fun i => .int (i : Nat)))] =
    some (.lst ((List.range (manyR ns P m + 1)).map fun i => .int (carry ns S sc P m (-1 + (i : Nat)))), []) := by
  obtain ⟨n1, n2⟩ := A.many (Nat.le_refl m)
  have c := carried_comp A
  have sm1 : small62 (0 - 1) := ⟨by decide, by decide⟩
  have sm2 : small62 ((manyR ns P m : Nat) : Int) := by
    have q : (manyR ns P m : Nat) ≤ 100000 := n2
    exact ⟨by omega, by omega⟩
  have l3 : (((manyR ns P m : Nat) : Int) - (0 - 1)).toNat = manyR ns P m + 1 := by omega
  have r := A.runs (Nat.le_refl m)
  rw [n1] at r
  have la := A.last
  have r' : m_runs_in_turn [.val (netD ns), .val (.int ((atP P m : Nat) : Int))] = some (.int (manyR ns P m : Nat), []) := r
  have rg : rng (0 - 1) (manyR ns P m + 1) = (List.range (manyR ns P m + 1)).map fun i : Nat => D.int (-1 + (i : Nat)) := rfl
  have fin : ((List.range (manyR ns P m + 1)).map fun i => D.int (carry ns S sc P m (-1 + (i : Nat)))).length ≤ LN := by
    rw [List.length_map, List.length_range]
    have q : (manyR ns P m : Nat) ≤ 100000 := n2
    exact Nat.le_trans (Nat.succ_le_succ q) (by decide)
  exact mir_rt (ρ0 := [_, _, _, _, _, _]) rfl (kS_nx (kSet_of (sCall_of (aC_of rfl (aC_of (s2_of rfl (s1_of rfl gNeg_int) la) rfl)) rfl r')) (kRet_of (sComp_of (by
    simp only [iR2, aC, aN, s2, sK, sV, gSub_eq, List.set_cons_zero, List.set_cons_succ, List.getElem?_cons_zero, List.getElem?_cons_succ, sm1, sm2, and_self, if_true, l3, rg]) c fin))) rfl
end
end Toy

set_option Elab.async false
set_option linter.all false
set_option maxRecDepth 100000
set_option maxHeartbeats 8000000
namespace Toy
open PySem PySem.Spec PyProof.Rows L2 VS
section
variable {ns : Nt} {S : List Int} {sc : Int} {P : List Nat} {m : Nat}
theorem Ask.begun (A : Ask ns S sc P m) {i : Nat} {run : Int} (h : i ≤ m) (b : Sm 3400 run) :
    m_time_begun [.val (netD ns), .val (.lst (S.map .int)), .val (.int sc), .val (.int ((atP P i : Nat) : Int)), .val (.int run)] = some (.int (ss S (atP P i) + run * pp ns (atP P i) * sc), []) := by
  obtain ⟨q1, q2⟩ := A.place h
  obtain ⟨s, e1, p1, l1, h1, h2, h3⟩ := A.step q2
  obtain ⟨x, e3, x1, x2⟩ := A.start q2
  rw [x1, p1]
  exact time_begun_eq e1 e3 (b.bd (by decide)) (h2.bd (by decide)) ((b.mul h2).bd (by decide)) (A.bc.bd (by decide))
theorem Ask.written (A : Ask ns S sc P m) {i : Nat} {run : Int} (h : i ≤ m) (b : Sm 3400 run) :
    m_time_written [.val (netD ns), .val (.lst (S.map .int)), .val (.int sc), .val (.int ((atP P i : Nat) : Int)), .val (.int run)] = some (.int (ss S (atP P i) + run * pp ns (atP P i) * sc + ll ns (atP P i) * sc), []) := by
  obtain ⟨q1, q2⟩ := A.place h
  obtain ⟨s, e1, p1, l1, h1, h2, h3⟩ := A.step q2
  obtain ⟨x, e3, x1, x2⟩ := A.start q2
  rw [x1, p1, l1]
  exact time_written_eq e1 e3 (b.bd (by decide)) (h2.bd (by decide)) ((b.mul h2).bd (by decide)) (A.bc.bd (by decide)) (h3.bd (by decide))
/-- the time from the start of run q of the first step to the end of run r of the last -/
def tm (ns : Nt) (S : List Int) (sc : Int) (P : List Nat) (m : Nat) (r q : Int) : Int :=
  ss S (atP P m) + r * pp ns (atP P m) * sc + ll ns (atP P m) * sc - (ss S (atP P 0) + q * pp ns (atP P 0) * sc)
theorem cut1 (xs : List D) : VS.cutD xs (some 1) none = xs.drop 1 := by
  unfold VS.cutD HT.sIx
  cases xs with
  | nil => rfl
  | cons x r => simp <;> omega
theorem enumF_map (f : Nat → D) : ∀ (n k : Nat), enumF k ((List.range n).map fun i => f (k + i)) = (List.range n).map fun i => .tup [.int ((k + i : Nat) : Int), f (k + i)]
  | 0, _ => rfl
  | n + 1, k => by
    have e : ((fun i : Nat => f (k + i)) ∘ Nat.succ) = fun i : Nat => f (k + 1 + i) := by
      funext i
      simp only [Function.comp_apply]
      congr 1
      omega
    have e2 : ((fun i : Nat => D.tup [.int ((k + i : Nat) : Int), f (k + i)]) ∘ Nat.succ) = fun i : Nat => D.tup [.int ((k + 1 + i : Nat) : Int), f (k + 1 + i)] := by
      funext i
      simp only [Function.comp_apply]
      rw [show k + Nat.succ i = k + 1 + i by omega]
    rw [List.range_succ_eq_map, List.map_cons, List.map_map, List.map_cons, List.map_map, e, e2]
    unfold enumF
    rw [enumF_map f n (k + 1)]
    rfl
theorem enumF_range (f : Nat → D) (n : Nat) : enumF 0 ((List.range n).map f) = (List.range n).map fun i => .tup [.int (i : Nat), f i] := by
  have := enumF_map f n 0
  simpa only [Nat.zero_add] using this
theorem drop_range (f : Nat → D) (n : Nat) : ((List.range (n + 1)).map f).drop 1 = (List.range n).map fun i => f (i + 1) := by
  rw [List.range_succ_eq_map, List.map_cons, List.map_map]
  rfl
/-- the source that run i carries -/
def src (ns : Nt) (S : List Int) (sc : Int) (P : List Nat) (m : Nat) (i : Int) : Int := carry ns S sc P m i
theorem Ask.srcSm (A : Ask ns S sc P m) {i : Nat} (h : i ≤ 100001) : Sm 3400 (carry ns S sc P m (-1 + (i : Nat))) ∧ Sm 100 (-1 + (i : Int)) := by
  have sm : Sm 100 (-1 + (i : Int)) := by
    have z : (100001 : Nat) < 2 ^ 100 := by decide
    unfold Sm
    omega
  exact ⟨(run_carried_eq A sm (by decide) (by decide)).2, sm⟩
theorem gSl1 {xs : List D} : gSl (.lst xs) (some 1) none = some (.lst (xs.drop 1)) := by
  show some (D.lst (VS.cutD xs (some 1) none)) = _
  rw [cut1]
theorem sSl_of {a : SE} {lo hi : SO} {ρ ρ1 ρ2 ρ3 : Rho} {x d : D} {l h : Option Int} (ha : a ρ = some (x, ρ1)) (hl : lo ρ1 = some (l, ρ2)) (hh : hi ρ2 = some (h, ρ3)) (hg : gSl x l h = some d) : sSl a lo hi ρ = some (d, ρ3) := by
  unfold sSl
  rw [ha]
  simp only [hl, hh, hg]
theorem iEn_of {a : SA} {ρ ρ1 : Rho} {xs : List D} (h : a ρ = some ([.lst xs], ρ1)) : iEn a ρ = some (enumF 0 xs, ρ1) := by
  unfold iEn
  rw [h]
/-- the ages of the runs of a turn -/
def agesL (ns : Nt) (S : List Int) (sc : Int) (P : List Nat) (m : Nat) : List Int := (List.range (manyR ns P m)).map fun i : Nat => tm ns S sc P m i (carry ns S sc P m i)
end
end Toy

set_option Elab.async false
set_option linter.all false
set_option maxRecDepth 100000
set_option maxHeartbeats 8000000
namespace Toy
open PySem PySem.Spec PyProof.Rows L2 VS
theorem toIs_map : ∀ (l : List Int), toIs (l.map .int) = some l
  | [] => rfl
  | i :: r => by
    simp only [List.map_cons, toIs, toIs_map r]
theorem gSorted_eq (l : List Int) : gSorted [.lst (l.map .int)] = some (.lst ((isort l).map .int)) := by
  unfold gSorted
  simp only [toIs_map]
theorem isort_ends {l : List Int} (h : l ≠ []) : ∃ lo hi k, (isort l).length = k + 1 ∧ (isort l)[0]? = some lo ∧ (isort l)[k]? = some hi ∧ lo ∈ l ∧ hi ∈ l ∧ ∀ x ∈ l, lo ≤ x ∧ x ≤ hi := by
  have pm : (isort l).Perm l := List.mergeSort_perm l _
  have so : (isort l).Pairwise (fun a b => decide (a ≤ b) = true) := List.pairwise_mergeSort (fun a b c h1 h2 => by simp at *; omega) (fun a b => by simp; omega) l
  have ln : (isort l).length = l.length := pm.length_eq
  have pos : 0 < l.length := List.length_pos_iff.mpr h
  generalize e : isort l = s at *
  have p0 : 0 < s.length := by omega
  have pk : s.length - 1 < s.length := by omega
  refine ⟨s[0], s[s.length - 1], s.length - 1, by omega, by simp [p0], by simp [pk], pm.mem_iff.mp (List.getElem_mem p0), pm.mem_iff.mp (List.getElem_mem pk), fun x hx => ?_⟩
  obtain ⟨i, hi, rfl⟩ := List.mem_iff_getElem.mp (pm.mem_iff.mpr hx)
  have pw := List.pairwise_iff_getElem.mp so
  constructor
  · by_cases z : i = 0
    · subst z; exact Int.le_refl _
    · exact of_decide_eq_true (pw 0 i p0 hi (by omega))
  · by_cases z : i = s.length - 1
    · subst z; exact Int.le_refl _
    · exact of_decide_eq_true (pw i (s.length - 1) hi pk (by omega))
theorem iSeq_of {a : SE} {ρ ρ1 : Rho} {xs : List D} (h : a ρ = some (.lst xs, ρ1)) : iSeq a ρ = some (xs, ρ1) := by
  unfold iSeq
  rw [h]
theorem kTup_of {is : List Nat} {e : SE} {ρ ρ1 ρ2 : Rho} {ds : List D} (h : e ρ = some (.tup ds, ρ1)) (h2 : sets is ds ρ1 = some ρ2) : VS.kTup is e ρ = some (.nx, ρ2) := by
  unfold VS.kTup
  rw [h]
  simp only [h2]
theorem kPar_of {is : List Nat} {a : SA} {ρ ρ1 ρ2 : Rho} {ds : List D} (h : a ρ = some (ds, ρ1)) (h2 : sets is ds ρ1 = some ρ2) : kPar is a ρ = some (.nx, ρ2) := by
  unfold kPar
  rw [h]
  simp only [h2]
theorem kLoop_nx {t : Tg} {b : SS} {d : D} {r : List D} {ρ ρ1 ρ2 : Rho} {res : Option (Fl × Rho)} (h1 : tgt t d ρ = some ρ1) (h2 : b ρ1 = some (.nx, ρ2)) (h3 : kLoop t b r ρ2 = res) : kLoop t b (d :: r) ρ = res := by
  unfold kLoop
  rw [h1]
  simp only [h2]
  exact h3
/-- what a question has passed before it is answered -/
structure Entry (ns : Nt) (S : List Int) (sc : Int) (P : List Nat) (PH PA : D) : Prop where
  c1 : m_check_net_and_phases [.val (netD ns), .val PH] = some (.non, [])
  c2 : m_check_path [.val (netD ns), .val PA] = some (.non, [])
  u : m_in_units [.val PH] = some (.tup [.lst (S.map .int), .int sc], [])
  p : m_places_of [.val (netD ns), .val PA] = some (.lst (P.map fun i => .int (i : Nat)), [])
section
variable {ns : Nt} {S : List Int} {sc : Int} {P : List Nat} {m : Nat} {PH PA : D}
/-! the longest wait -/
def inc (ns : Nt) (S : List Int) (sc : Int) (P : List Nat) (m : Nat) (i : Nat) : Prop := carry ns S sc P m (-1 + (i : Nat)) < carry ns S sc P m (-1 + ((i + 1 : Nat) : Int))
instance : Decidable (inc ns S sc P m i) := inferInstanceAs (Decidable (_ < _))
def wt (ns : Nt) (S : List Int) (sc : Int) (P : List Nat) (m : Nat) (i : Nat) : Int := tm ns S sc P m (i : Nat) (carry ns S sc P m (-1 + (i : Nat)))
def bw (ns : Nt) (S : List Int) (sc : Int) (P : List Nat) (m : Nat) (best : Option Int) (i : Nat) : Option Int :=
  if inc ns S sc P m i then match best with
    | none => some (wt ns S sc P m i)
    | some b => if b < wt ns S sc P m i then some (wt ns S sc P m i) else some b
  else best
def opD : Option Int → D
  | none => .non
  | some b => .int b
theorem zipD_range (f g : Nat → D) (n : Nat) : zipD ((List.range (n + 1)).map f) ((List.range n).map g) = (List.range n).map fun i => .tup [f i, g i] := by
  apply List.ext_getElem
  · simp [zipD]
  · intro i h1 h2
    simp [zipD]
theorem gLt_t {a b : Int} (h : a < b) : gLt (.int a) (.int b) = some (.bl true) := by rw [gLt_int, decide_eq_true h]
theorem gLt_f {a b : Int} (h : ¬ a < b) : gLt (.int a) (.int b) = some (.bl false) := by rw [gLt_int, decide_eq_false h]
theorem gIsN_opD (b : Option Int) : gIsN (opD b) = some (.bl b.isNone) := by cases b <;> rfl
theorem gw_loop (A : Ask ns S sc P m) (XS : Sl) : ∀ (l : List Nat) (best : Option Int) (x6 x7 x8 x9 x10 : Sl), (∀ i ∈ l, i < manyR ns P m) → ∃ y6 y7 y8 y9 y10,
    kLoop (.np 6 [7, 8]) (kIf (sB (s2 gLt (sV 7) (sV 8)))
      (kS (kSet 9 (sCall 5 m_time_written (aC (sV 0) (aC (sV 1) (aC (sV 2) (aC (s2 gIx (sV 3) (s1 gNeg (sK (.int 1)))) (aC (sV 6) aN)))))))
      (kS (kSet 10 (s2 gSub (sV 9) (sCall 5 m_time_begun (aC (sV 0) (aC (sV 1) (aC (sV 2) (aC (s2 gIx (sV 3) (sK (.int 0))) (aC (sV 7) aN))))))))
      (kIf (bOr (sB (s1 gIsN (sV 5))) (sB (s2 gGt (sV 10) (sV 5)))) (kSet 5 (sV 10)) kN))) kN)
      (l.map fun i => .tup [.int (i : Nat), .tup [.int (carry ns S sc P m (-1 + (i : Nat))), .int (carry ns S sc P m (-1 + ((i + 1 : Nat) : Int)))]])
      [.val (netD ns), .val (.lst (S.map .int)), .val (.int sc), .val (.lst (P.map fun i => .int (i : Nat))), XS, .val (opD best), x6, x7, x8, x9, x10] =
    some (.nx, [.val (netD ns), .val (.lst (S.map .int)), .val (.int sc), .val (.lst (P.map fun i => .int (i : Nat))), XS, .val (opD (l.foldl (bw ns S sc P m) best)), y6, y7, y8, y9, y10])
  | [], best, x6, x7, x8, x9, x10, _ => ⟨x6, x7, x8, x9, x10, rfl⟩
  | i :: l, best, x6, x7, x8, x9, x10, h => by
    obtain ⟨n1, n2⟩ := A.many (Nat.le_refl m)
    have q : (manyR ns P m : Nat) ≤ 100000 := n2
    have hi := h i List.mem_cons_self
    have sm1 := A.srcSm (i := i) (by omega)
    have sm2 : Sm 3400 ((i : Nat) : Int) := by
      have := (A.srcSm (i := i + 1) (by omega)).2
      rw [show (-1 : Int) + ((i + 1 : Nat) : Int) = (i : Nat) by omega] at this
      exact this.mono (by decide)
    have w1 := A.written (Nat.le_refl m) sm2
    have w2 := A.begun (Nat.zero_le m) sm1.1
    have la := A.last
    have fi := A.first
    rw [List.map_cons, List.foldl_cons]
    by_cases z : inc ns S sc P m i
    · have z' : carry ns S sc P m (-1 + (i : Nat)) < carry ns S sc P m (-1 + ((i + 1 : Nat) : Int)) := z
      by_cases g : best.isNone = true ∨ ∃ b, best = some b ∧ b < wt ns S sc P m i
      · have hb : bw ns S sc P m best i = some (wt ns S sc P m i) := by
          unfold bw
          rw [if_pos z]
          rcases g with g | ⟨b, rfl, g⟩
          · cases best with
            | none => rfl
            | some b => cases g
          · simp only [if_pos g]
        obtain ⟨y6, y7, y8, y9, y10, e⟩ := gw_loop A XS l (some (wt ns S sc P m i)) (.val (.int (i : Nat))) (.val (.int (carry ns S sc P m (-1 + (i : Nat))))) (.val (.int (carry ns S sc P m (-1 + ((i + 1 : Nat) : Int)))))
          (.val (.int (ss S (atP P m) + (i : Nat) * pp ns (atP P m) * sc + ll ns (atP P m) * sc))) (.val (.int (wt ns S sc P m i))) fun j hj => h j (List.mem_cons_of_mem _ hj)
        refine ⟨y6, y7, y8, y9, y10, ?_⟩
        rw [hb]
        have t : bOr (sB (s1 gIsN (sV 5))) (sB (s2 gGt (sV 10) (sV 5))) [.val (netD ns), .val (.lst (S.map .int)), .val (.int sc), .val (.lst (P.map fun i => .int (i : Nat))), XS, .val (opD best), .val (.int (i : Nat)), .val (.int (carry ns S sc P m (-1 + (i : Nat)))), .val (.int (carry ns S sc P m (-1 + ((i + 1 : Nat) : Int)))), .val (.int (ss S (atP P m) + (i : Nat) * pp ns (atP P m) * sc + ll ns (atP P m) * sc)), .val (.int (wt ns S sc P m i))] =
            some (true, [.val (netD ns), .val (.lst (S.map .int)), .val (.int sc), .val (.lst (P.map fun i => .int (i : Nat))), XS, .val (opD best), .val (.int (i : Nat)), .val (.int (carry ns S sc P m (-1 + (i : Nat)))), .val (.int (carry ns S sc P m (-1 + ((i + 1 : Nat) : Int)))), .val (.int (ss S (atP P m) + (i : Nat) * pp ns (atP P m) * sc + ll ns (atP P m) * sc)), .val (.int (wt ns S sc P m i))]) := by
          rcases g with g | ⟨b, rfl, g⟩
          · simp only [bOr, sB, s1, sV, List.getElem?_cons_zero, List.getElem?_cons_succ, gIsN_opD, g]
          · simp only [bOr, sB, s1, s2, sV, List.getElem?_cons_zero, List.getElem?_cons_succ, opD, gIsN, isN, gGt_int, g, decide_true]
        exact kLoop_nx rfl (kIf_t (sB_of (s2_of rfl rfl (gLt_t z'))) (kS_nx (kSet_of (sCall_of (aC_of rfl (aC_of rfl (aC_of rfl (aC_of (s2_of rfl (s1_of rfl gNeg_int) la) (aC_of rfl rfl))))) rfl w1)) (kS_nx (kSet_of (s2_of rfl (sCall_of (aC_of rfl (aC_of rfl (aC_of rfl (aC_of (s2_of rfl rfl fi) (aC_of rfl rfl))))) rfl w2) gSub_eq)) (kIf_t t (kSet_of rfl))))) e
      · have hb : bw ns S sc P m best i = best := by
          unfold bw
          rw [if_pos z]
          cases best with
          | none => exact absurd (Or.inl rfl) g
          | some b =>
            have : ¬ b < wt ns S sc P m i := fun k => g (Or.inr ⟨b, rfl, k⟩)
            simp only [if_neg this]
        obtain ⟨y6, y7, y8, y9, y10, e⟩ := gw_loop A XS l best (.val (.int (i : Nat))) (.val (.int (carry ns S sc P m (-1 + (i : Nat))))) (.val (.int (carry ns S sc P m (-1 + ((i + 1 : Nat) : Int)))))
          (.val (.int (ss S (atP P m) + (i : Nat) * pp ns (atP P m) * sc + ll ns (atP P m) * sc))) (.val (.int (wt ns S sc P m i))) fun j hj => h j (List.mem_cons_of_mem _ hj)
        refine ⟨y6, y7, y8, y9, y10, ?_⟩
        rw [hb]
        have t : bOr (sB (s1 gIsN (sV 5))) (sB (s2 gGt (sV 10) (sV 5))) [.val (netD ns), .val (.lst (S.map .int)), .val (.int sc), .val (.lst (P.map fun i => .int (i : Nat))), XS, .val (opD best), .val (.int (i : Nat)), .val (.int (carry ns S sc P m (-1 + (i : Nat)))), .val (.int (carry ns S sc P m (-1 + ((i + 1 : Nat) : Int)))), .val (.int (ss S (atP P m) + (i : Nat) * pp ns (atP P m) * sc + ll ns (atP P m) * sc)), .val (.int (wt ns S sc P m i))] =
            some (false, [.val (netD ns), .val (.lst (S.map .int)), .val (.int sc), .val (.lst (P.map fun i => .int (i : Nat))), XS, .val (opD best), .val (.int (i : Nat)), .val (.int (carry ns S sc P m (-1 + (i : Nat)))), .val (.int (carry ns S sc P m (-1 + ((i + 1 : Nat) : Int)))), .val (.int (ss S (atP P m) + (i : Nat) * pp ns (atP P m) * sc + ll ns (atP P m) * sc)), .val (.int (wt ns S sc P m i))]) := by
          cases best with
          | none => exact absurd (Or.inl rfl) g
          | some b =>
            have : ¬ b < wt ns S sc P m i := fun k => g (Or.inr ⟨b, rfl, k⟩)
            simp only [bOr, sB, s1, s2, sV, List.getElem?_cons_zero, List.getElem?_cons_succ, opD, gIsN, isN, gGt_int, this, decide_false]
        exact kLoop_nx rfl (kIf_t (sB_of (s2_of rfl rfl (gLt_t z'))) (kS_nx (kSet_of (sCall_of (aC_of rfl (aC_of rfl (aC_of rfl (aC_of (s2_of rfl (s1_of rfl gNeg_int) la) (aC_of rfl rfl))))) rfl w1)) (kS_nx (kSet_of (s2_of rfl (sCall_of (aC_of rfl (aC_of rfl (aC_of rfl (aC_of (s2_of rfl rfl fi) (aC_of rfl rfl))))) rfl w2) gSub_eq)) (kIf_f t rfl)))) e
    · have z' : ¬ carry ns S sc P m (-1 + (i : Nat)) < carry ns S sc P m (-1 + ((i + 1 : Nat) : Int)) := z
      have hb : bw ns S sc P m best i = best := by
        unfold bw
        rw [if_neg z]
      obtain ⟨y6, y7, y8, y9, y10, e⟩ := gw_loop A XS l best (.val (.int (i : Nat))) (.val (.int (carry ns S sc P m (-1 + (i : Nat))))) (.val (.int (carry ns S sc P m (-1 + ((i + 1 : Nat) : Int))))) x9 x10 fun j hj => h j (List.mem_cons_of_mem _ hj)
      refine ⟨y6, y7, y8, y9, y10, ?_⟩
      rw [hb]
      exact kLoop_nx rfl (kIf_f (sB_of (s2_of rfl rfl (gLt_f z'))) rfl) e
end
end Toy

set_option Elab.async false
set_option linter.all false
set_option maxRecDepth 100000
set_option maxHeartbeats 8000000
namespace Toy
open PySem PySem.Spec PyProof.Rows L2 VS
theorem iEnZ_of {a : SA} {ρ ρ1 : Rho} {xs ys : List D} (h : a ρ = some ([.lst xs, .lst ys], ρ1)) : iEnZ a ρ = some (enumF 0 (zipD xs ys), ρ1) := by
  unfold iEnZ
  rw [h]
theorem iZi_of {a : SA} {ρ ρ1 : Rho} {xs ys : List D} (h : a ρ = some ([.lst xs, .lst ys], ρ1)) : iZi a ρ = some (zipD xs ys, ρ1) := by
  unfold iZi
  rw [h]
section
variable {ns : Nt} {S : List Int} {sc : Int} {P : List Nat} {m : Nat} {PH PA : D}
def carL (ns : Nt) (S : List Int) (sc : Int) (P : List Nat) (m : Nat) : List D := (List.range (manyR ns P m + 1)).map fun i => .int (carry ns S sc P m (-1 + (i : Nat)))
def carT (ns : Nt) (S : List Int) (sc : Int) (P : List Nat) (m : Nat) : List D := (List.range (manyR ns P m)).map fun i => .int (carry ns S sc P m (-1 + ((i + 1 : Nat) : Int)))
theorem carL_drop : gSl (.lst (carL ns S sc P m)) (some 1) none = some (.lst (carT ns S sc P m)) := by
  rw [gSl1]
  unfold carL carT
  rw [drop_range]
theorem carL_zip : zipD (carL ns S sc P m) (carT ns S sc P m) = (List.range (manyR ns P m)).map fun i => .tup [.int (carry ns S sc P m (-1 + (i : Nat))), .int (carry ns S sc P m (-1 + ((i + 1 : Nat) : Int)))] := zipD_range _ _ _
theorem greatest_wait_eq (A : Ask ns S sc P m) : m_greatest_wait [.val (netD ns), .val (.lst (S.map .int)), .val (.int sc), .val (.lst (P.map fun i => .int (i : Nat)))] =
    some (opD ((List.range (manyR ns P m)).foldl (bw ns S sc P m) none), []) := by
  have e : m_all_carried [.val (netD ns), .val (.lst (S.map .int)), .val (.int sc), .val (.lst (P.map fun i => .int (i : Nat)))] = some (.lst (carL ns S sc P m), []) := all_carried_eq A
  obtain ⟨y6, y7, y8, y9, y10, lp⟩ := gw_loop A (.val (.lst (carL ns S sc P m))) (List.range (manyR ns P m)) none .no .no .no .no .no fun i hi => List.mem_range.mp hi
  have it := iEnZ_of (a := aC (sV 4) (aC (sSl (sV 4) (oS (sK (.int 1))) oN) aN)) (ρ := [.val (netD ns), .val (.lst (S.map .int)), .val (.int sc), .val (.lst (P.map fun i => .int (i : Nat))), .val (.lst (carL ns S sc P m)), .val .non, .no, .no, .no, .no, .no]) (aC_of rfl (aC_of (sSl_of rfl rfl rfl carL_drop) rfl))
  rw [carL_zip, enumF_range] at it
  exact mir_rt (ρ0 := [_, _, _, _, _, _, _, _, _, _, _]) rfl (kS_nx (kSet_of (sCall_of (aC_of rfl (aC_of rfl (aC_of rfl (aC_of rfl rfl)))) rfl e)) (kS_nx (kSet_of rfl) (kS_nx (kFor_of it lp) (kRet_of rfl)))) rfl
theorem longest_wait_eq (A : Ask ns S sc P m) (E : Entry ns S sc P PH PA) {w : Int} (h : (List.range (manyR ns P m)).foldl (bw ns S sc P m) none = some w) :
    m_longest_wait [.val (netD ns), .val PH, .val PA] = some (lowD w sc, []) := by
  have g := greatest_wait_eq A
  rw [h] at g
  have l1 := lowest_eq (a := w) A.c0 (A.bc.mono (by decide))
  exact mir_rt (ρ0 := [_, _, _, _, _]) rfl (kS_nx (kDrop_of (sCall_of (aC_of rfl (aC_of rfl rfl)) rfl E.c1)) (kS_nx (kDrop_of (sCall_of (aC_of rfl (aC_of rfl rfl)) rfl E.c2)) (kS_nx (kTup_of (sCall_of (aC_of rfl rfl) rfl E.u) rfl)
    (kRet_of (sCall_of (aC_of (sCall_of (aC_of rfl (aC_of rfl (aC_of rfl (aC_of (sCall_of (aC_of rfl (aC_of rfl rfl)) rfl E.p) rfl)))) rfl g) (aC_of rfl rfl)) rfl l1))))) rfl
def usedN (ns : Nt) (S : List Int) (sc : Int) (P : List Nat) (m : Nat) : Nat := ((List.range (manyR ns P m)).filter fun i => decide (inc ns S sc P m i)).length
theorem cLoop_flt {α : Type} {t : Tg} {tt : SB} {e : SE} {ρ : Rho} {g : α → D} {f : α → Option D} : ∀ {ds : List α}, (∀ d ∈ ds, turnC t tt e (g d) ρ = some (f d, ρ)) → cLoop t tt e (ds.map g) ρ = some (ds.filterMap f, ρ)
  | [], _ => rfl
  | d :: r, h => by
    have ih := cLoop_flt (g := g) (f := f) (ds := r) fun m hm => h m (List.mem_cons_of_mem _ hm)
    rw [List.map_cons, List.filterMap_cons]
    unfold cLoop
    rw [h d List.mem_cons_self]
    cases e : f d with
    | none => simp only [ih]
    | some x => simp only [ih]
theorem flt_len {α : Type} (p : α → Prop) [DecidablePred p] (x : α → D) : ∀ (l : List α), (l.filterMap fun i => if p i then some (x i) else none).length = (l.filter fun i => decide (p i)).length
  | [] => rfl
  | a :: r => by
    rw [List.filterMap_cons, List.filter_cons]
    by_cases h : p a
    · simp only [h, if_true, decide_true, List.length_cons, flt_len p x r]
    · simp only [h, if_false, decide_false, flt_len p x r, Bool.false_eq_true]
theorem gTup4 {a b c d : D} : VS.gTup [a, b, c, d] = some (.tup [a, b, c, d]) := by
  unfold VS.gTup
  rw [if_pos (by show 4 ≤ 1000000; decide)]
end
end Toy

set_option Elab.async false
set_option linter.all false
set_option maxRecDepth 100000
set_option maxHeartbeats 8000000
namespace Toy
open PySem PySem.Spec PyProof.Rows L2 VS
def frD (p : Int × Int) : D := .tup [.int p.1, .int p.2]
theorem sets2 {i j : Nat} {x y : D} {ρ : Rho} : sets [i, j] [x, y] ρ = some ((ρ.set i (.val x)).set j (.val y)) := rfl
def unitS (ph : List (Int × Int)) : Int := lcmL (ph.map (·.2))
def unitL (ph : List (Int × Int)) : List Int := ph.map fun p => p.1 * (unitS ph / p.2)
def Phs (ph : List (Int × Int)) : Prop := (∀ p ∈ ph, 0 < p.2 ∧ Sm 60 p.2 ∧ Sm 60 p.1) ∧ ph.length ≤ 6
theorem Phs.pos {ph : List (Int × Int)} (h : Phs ph) : 0 < unitS ph := lcmF_pos (by decide) fun n hn => by
  obtain ⟨p, hp, rfl⟩ := List.mem_map.mp hn
  exact (h.1 p hp).1
theorem Phs.sm {ph : List (Int × Int)} (h : Phs ph) : Sm 400 (unitS ph) := by
  have := lcmF_sm (ns := ph.map (·.2)) (k := 1) (f := 1) (by decide) (sm_of (by decide) (by decide)) fun n hn => by
    obtain ⟨p, hp, rfl⟩ := List.mem_map.mp hn
    exact ⟨(h.1 p hp).1, (h.1 p hp).2.1⟩
  exact this.mono (by rw [List.length_map]; have := h.2; omega)
theorem Phs.q {ph : List (Int × Int)} (h : Phs ph) {p : Int × Int} (hp : p ∈ ph) : Sm 400 (unitS ph / p.2) := by
  have h1 := Int.ediv_le_self p.2 (Int.le_of_lt h.pos)
  have h2 : 0 ≤ unitS ph / p.2 := Int.ediv_nonneg (Int.le_of_lt h.pos) (Int.le_of_lt (h.1 p hp).1)
  have h3 := h.sm
  have h4 := h.pos
  unfold Sm at *
  omega
theorem in_units_eq {ph : List (Int × Int)} (h : Phs ph) : m_in_units [.val (.tup (ph.map frD))] = some (.tup [.lst ((unitL ph).map .int), .int (unitS ph)], []) := by
  have e := common_multiple_eq (ns := ph.map (·.2)) (fun n hn => by
    obtain ⟨p, hp, rfl⟩ := List.mem_map.mp hn
    exact ⟨(h.1 p hp).1, (h.1 p hp).2.1⟩) (by rw [List.length_map]; have := h.2; omega)
  have c1 := cLoop_map (t := .tp [2, 3]) (tt := bYes) (e := sV 3) (ρ := [.val (.tup (ph.map frD)), .no, .no, .no]) (g := frD) (f := fun p => D.int p.2) (ds := ph) fun p _ => by
    simp only [turnC, okT, Tg.ix, List.all_cons, List.all_nil, List.getElem?_cons_succ, List.getElem?_cons_zero, Bool.and_true, if_true, blkR, wipeR, toB, List.map_cons, List.map_nil, frD, tgt, sets, List.set_cons_succ, List.set_cons_zero, bYes, sV, restore, Option.map_some]
  have c2 := cLoop_map (t := .tp [2, 3]) (tt := bYes) (e := s2 gMul (sV 2) (s2 gFdiv (sV 1) (sV 3))) (ρ := [.val (.tup (ph.map frD)), .val (.int (unitS ph)), .no, .no]) (g := frD) (f := fun p => D.int (p.1 * (unitS ph / p.2))) (ds := ph) fun p hp => by
    have q := h.1 p hp
    simp only [turnC, okT, Tg.ix, List.all_cons, List.all_nil, List.getElem?_cons_succ, List.getElem?_cons_zero, Bool.and_true, if_true, blkR, wipeR, toB, List.map_cons, List.map_nil, frD, tgt, sets, List.set_cons_succ, List.set_cons_zero, bYes, sV, s2, gFdiv_eq q.1 (q.2.1.bd (by decide)), gMul_eq (q.2.2.bd (by decide)) ((h.q hp).bd (by decide)), restore, Option.map_some]
  have len : ∀ (f : Int × Int → D), (ph.map f).length ≤ LN := fun f => by
    rw [List.length_map]
    exact Nat.le_trans h.2 (by decide)
  have w1 : ph.map (fun p => D.int p.2) = (ph.map (·.2)).map D.int := by rw [List.map_map]; rfl
  have w2 : (unitL ph).map D.int = ph.map (fun p => D.int (p.1 * (unitS ph / p.2))) := by unfold unitL; rw [List.map_map]; rfl
  have l1 := len (fun p => D.int p.2)
  rw [w1] at c1 l1
  rw [w2]
  have i1 : ∀ (y : Sl), iTupl (sV 0) [.val (.tup (ph.map frD)), y, .no, .no] = some (ph.map frD, [.val (.tup (ph.map frD)), y, .no, .no]) := fun y => rfl
  exact mir_rt (ρ0 := [_, _, _, _]) rfl (kS_nx (kSet_of (sCall_of (aC_of (sComp_of (i1 .no) c1 l1) rfl) rfl e)) (kRet_of (sL_of (aC_of (sComp_of (i1 (.val (.int (unitS ph)))) c2 (len _)) (aC_of rfl rfl)) gTup2))) rfl
theorem sCh_dummy : True := trivial
theorem is_whole_int (a : Int) : m_is_whole [.val (.int a)] = some (.bl true, []) := rfl
theorem is_fraction_eq {p : Int × Int} (h : 0 < p.2) : m_is_fraction [.val (frD p)] = some (.bl true, []) := by
  have g : gGe (.int p.2) (.int 1) = some (.bl true) := by rw [gGe_int, decide_eq_true (by omega)]
  have c : cLoop (.nm 1) (bNot (sB (sCall 1 m_is_whole (aC (sV 1) aN)))) (sV 1) [.int p.1, .int p.2] [.val (frD p), .no] = some ([], [.val (frD p), .no]) := rfl
  exact mir_rt (ρ0 := [_, _]) rfl (kS_nx (kIf_f (ρ1 := [.val (frD p), .no]) rfl rfl) (kRet_of (s2_of (s2_of rfl rfl rfl) rfl g))) rfl
theorem check_net_eq (ns : Nt) : m_check_net [.val (netD ns)] = some (.non, []) := rfl
theorem check_phases_eq {ns : Nt} {ph : List (Int × Int)} (h : Phs ph) (hl : ph.length = ns.length) : m_check_phases [.val (netD ns), .val (.tup (ph.map frD))] = some (.non, []) := by
  have c := cLoop_flt (t := .nm 2) (tt := bNot (sB (sCall 1 m_is_fraction (aC (sV 2) aN)))) (e := sV 2) (ρ := [.val (netD ns), .val (.tup (ph.map frD)), .no]) (g := frD) (f := fun _ => none) (ds := ph) fun p hp => by
    have q := is_fraction_eq (h.1 p hp).1
    simp only [turnC, okT, Tg.ix, List.all_cons, List.all_nil, List.getElem?_cons_succ, List.getElem?_cons_zero, Bool.and_true, if_true, blkR, wipeR, toB, List.map_cons, List.map_nil, tgt, List.set_cons_succ, List.set_cons_zero, bNot, sB, sCall, aC, aN, sV, List.length_cons, List.length_nil, Nat.zero_add, q, Bool.not_true, restore, Option.map_some]
  have fm : ph.filterMap (fun _ => (none : Option D)) = [] := by
    induction ph with
    | nil => rfl
    | cons p r ih => simp
  rw [fm] at c
  have l1 : gNe (.int ((ph.map frD).length : Nat)) (.int ((ns.map stpD).length : Nat)) = some (.bl false) := by
    rw [gNe_int, List.length_map, List.length_map, hl]
    simp
  have t1 : bOr (bNot (sB (s1 (gIsTy 4) (sV 1)))) (sB (s2 gNe (sL gLen (aC (sV 1) aN)) (sL gLen (aC (s1 (gFld 1 0) (sV 0)) aN)))) [.val (netD ns), .val (.tup (ph.map frD)), .no] = some (false, [.val (netD ns), .val (.tup (ph.map frD)), .no]) := by
    have b : sB (s2 gNe (sL gLen (aC (sV 1) aN)) (sL gLen (aC (s1 (gFld 1 0) (sV 0)) aN))) [.val (netD ns), .val (.tup (ph.map frD)), .no] = some (false, [.val (netD ns), .val (.tup (ph.map frD)), .no]) :=
      sB_of (s2_of (sL_of (aC_of rfl rfl) rfl) (sL_of (aC_of rfl rfl) rfl) l1)
    have a : bNot (sB (s1 (gIsTy 4) (sV 1))) [.val (netD ns), .val (.tup (ph.map frD)), .no] = some (false, [.val (netD ns), .val (.tup (ph.map frD)), .no]) := rfl
    unfold bOr
    rw [a]
    exact b
  exact mir_nx (ρ0 := [_, _, _]) rfl (kS_nx (kIf_f t1 rfl) (kIf_f (sB_of (s2_of (sComp_of rfl c (by decide)) rfl rfl)) rfl)) rfl
theorem check_both_eq {ns : Nt} {ph : List (Int × Int)} (h : Phs ph) (hl : ph.length = ns.length) : m_check_net_and_phases [.val (netD ns), .val (.tup (ph.map frD))] = some (.non, []) :=
  mir_nx (ρ0 := [_, _]) rfl (kS_nx (kDrop_of (sCall_of (aC_of rfl rfl) rfl (check_net_eq ns))) (kDrop_of (sCall_of (aC_of rfl (aC_of rfl rfl)) rfl (check_phases_eq h hl)))) rfl
/-! the two steps of this law -/
def two (a l b k : Int) : Nt := [⟨"one", a, l, []⟩, ⟨"two", b, k, ["one"]⟩]
theorem two_path (a l b k : Int) : m_check_path [.val (netD (two a l b k)), .val (.lst [.str "one", .str "two"])] = some (.non, []) := by kernel_rfl
theorem two_places (a l b k : Int) : m_places_of [.val (netD (two a l b k)), .val (.lst [.str "one", .str "two"])] = some (.lst [.int 0, .int 1], []) := by kernel_rfl
end Toy

set_option Elab.async false
set_option linter.all false
set_option maxRecDepth 100000
set_option maxHeartbeats 8000000
namespace Toy
open PySem PySem.Spec PyProof.Rows L2 VS
/-! names, steps, nets of any kind -/
/-- a text that the program takes for a name -/
def NmOk (x : Str) : Prop := m_is_name [.val (.str x)] = some (.bl true, [])
theorem strs_map : ∀ (l : List Str), strs' (l.map .str) = some l
  | [] => rfl
  | i :: r => by
    simp only [List.map_cons, strs', strs_map r]
theorem distinct_nodup {α : Type} [DecidableEq α] : ∀ {l : List α}, l.Nodup → distinct l = l.length
  | [], _ => rfl
  | a :: r, h => by
    rw [List.nodup_cons] at h
    unfold distinct
    rw [if_neg h.1, distinct_nodup h.2]
    rfl
theorem fm_none {α : Type} : ∀ (l : List α), l.filterMap (fun _ => (none : Option D)) = []
  | [] => rfl
  | a :: r => by simp
theorem are_names_eq {L : List Str} (h : ∀ x ∈ L, NmOk x) (nd : L.Nodup) (hl : L.length ≤ 4000) : m_are_names [.val (.lst (L.map .str))] = some (.bl true, []) := by
  have c := cLoop_flt (t := .nm 1) (tt := bNot (sB (sCall 1 m_is_name (aC (sV 1) aN)))) (e := sV 1) (ρ := [.val (.lst (L.map .str)), .no]) (g := D.str) (f := fun _ => none) (ds := L) fun x hx => by
    have q : m_is_name [.val (.str x)] = some (.bl true, []) := h x hx
    simp only [turnC, okT, Tg.ix, List.all_cons, List.all_nil, List.getElem?_cons_succ, List.getElem?_cons_zero, Bool.and_true, if_true, blkR, wipeR, toB, List.map_cons, List.map_nil, tgt, List.set_cons_succ, List.set_cons_zero, bNot, sB, sCall, aC, aN, sV, List.length_cons, List.length_nil, Nat.zero_add, q, Bool.not_true, restore, Option.map_some]
  rw [fm_none] at c
  have ls : gLenSet (.lst (L.map .str)) = some (.int (L.length : Nat)) := by
    unfold gLenSet
    simp only [strs_map, hl, if_true, distinct_nodup nd]
  have ll : gLen [.lst (L.map .str)] = some (.int (L.length : Nat)) := by
    rw [gLen_lst, List.length_map]
  have ee : gEq (.int (L.length : Nat)) (.int (L.length : Nat)) = some (.bl true) := by
    rw [gEq_int]
    simp
  have t1 : bOr (bNot (sB (s1 (gIsTy 3) (sV 0)))) (sB (s2 gNe (sComp (iSeq (sV 0)) (.nm 1) (bNot (sB (sCall 1 m_is_name (aC (sV 1) aN)))) (sV 1)) (sL gLst aN))) [.val (.lst (L.map .str)), .no] = some (false, [.val (.lst (L.map .str)), .no]) := by
    have a : bNot (sB (s1 (gIsTy 3) (sV 0))) [.val (.lst (L.map .str)), .no] = some (false, [.val (.lst (L.map .str)), .no]) := rfl
    unfold bOr
    rw [a]
    exact sB_of (s2_of (sComp_of rfl c (by decide)) rfl rfl)
  exact mir_rt (ρ0 := [_, _]) rfl (kS_nx (kIf_f t1 rfl) (kRet_of (s2_of (s1_of rfl ls) (sL_of (aC_of rfl rfl) ll) ee))) rfl
/-- a step that the program makes -/
structure StOk (s : Stp) : Prop where
  nm : NmOk s.nm
  p : 0 < s.p
  l : 0 ≤ s.l
  rn : ∀ x ∈ s.rd, NmOk x
  nd : s.rd.Nodup
  rl : s.rd.length ≤ 4000
theorem step_init_eq {s : Stp} (h : StOk s) : m_Step_init [.slf 0 [], .val (.str s.nm), .val (.int s.p), .val (.int s.l), .val (.lst (s.rd.map .str))] = some (.non, [.str s.nm, .int s.p, .int s.l, .tup (s.rd.map .str)]) := by
  have q1 : m_is_name [.val (.str s.nm)] = some (.bl true, []) := h.nm
  have q2 := is_whole_int s.p
  have q3 := is_whole_int s.l
  have q4 := are_names_eq h.rn h.nd h.rl
  have t1 : bOr (bNot (sB (sCall 1 m_is_name (aC (sV 1) aN)))) (bOr (bNot (sB (sCall 1 m_is_whole (aC (sV 2) aN)))) (bOr (bNot (sB (sCall 1 m_is_whole (aC (sV 3) aN)))) (bNot (sB (sCall 1 m_are_names (aC (sV 4) aN)))))) [.slf 0 [], .val (.str s.nm), .val (.int s.p), .val (.int s.l), .val (.lst (s.rd.map .str))] =
      some (false, [.slf 0 [], .val (.str s.nm), .val (.int s.p), .val (.int s.l), .val (.lst (s.rd.map .str))]) := by
    simp only [bOr, bNot, sB, sCall, aC, aN, sV, List.getElem?_cons_zero, List.getElem?_cons_succ, List.map_cons, List.map_nil, List.length_cons, List.length_nil, Nat.zero_add, if_true, q1, q2, q3, q4, Bool.not_true]
  have t2 : bOr (sB (s2 gLt (sV 2) (sK (.int 1)))) (sB (s2 gLt (sV 3) (sK (.int 0)))) [.slf 0 [], .val (.str s.nm), .val (.int s.p), .val (.int s.l), .val (.lst (s.rd.map .str))] =
      some (false, [.slf 0 [], .val (.str s.nm), .val (.int s.p), .val (.int s.l), .val (.lst (s.rd.map .str))]) := by
    have e1 := gLt_f (a := s.p) (b := 1) (by have := h.p; omega)
    have e2 := gLt_f (a := s.l) (b := 0) (by have := h.l; omega)
    simp only [bOr, sB, s2, sV, sK, List.getElem?_cons_zero, List.getElem?_cons_succ, e1, e2]
  exact mir_nx (ρ0 := [_, _, _, _, _]) rfl (kS_nx (kIf_f t1 rfl) (kS_nx (kIf_f t2 rfl) (kS_nx rfl (kS_nx rfl (kS_nx rfl rfl))))) rfl
theorem any_str {x : Str} : ∀ {L : List Str}, ((L.map D.str).any fun y => eqF y (.str x)) = decide (x ∈ L)
  | [] => rfl
  | a :: r => by
    rw [List.map_cons, List.any_cons, any_str (L := r)]
    show ((a == x) || decide (x ∈ r)) = decide (x ∈ a :: r)
    by_cases h : a = x
    · subst h; simp
    · have : x ≠ a := fun e => h e.symm
      simp [h, this]
theorem all_str : ∀ (L : List Str), (L.map D.str).all flatD = true
  | [] => rfl
  | a :: r => by simp [flatD, all_str r]
theorem inD_str (x : Str) (L : List Str) : inD (.str x) (L.map .str) = some (decide (x ∈ L)) := by
  unfold inD
  rw [if_pos ⟨rfl, all_str L⟩, any_str]
theorem gNotIn_lst (x : Str) (L : List Str) : gNotIn (.str x) (.lst (L.map .str)) = some (.bl (!decide (x ∈ L))) := by
  show (inD (.str x) (L.map .str)).map _ = _
  rw [inD_str]
  rfl
theorem gNotIn_tup (x : Str) (L : List Str) : gNotIn (.str x) (.tup (L.map .str)) = some (.bl (!decide (x ∈ L))) := by
  show (inD (.str x) (L.map .str)).map _ = _
  rw [inD_str]
  rfl
theorem gIn_tup (x : Str) (L : List Str) : gIn (.str x) (.tup (L.map .str)) = some (.bl (decide (x ∈ L))) := by
  show (inD (.str x) (L.map .str)).map _ = _
  rw [inD_str]
  rfl
/-- a net that the program makes -/
structure NtOk (ns : Nt) : Prop where
  ne : ns ≠ []
  st : ∀ s ∈ ns, StOk s
  nd : (ns.map (·.nm)).Nodup
  rd : ∀ s ∈ ns, ∀ x ∈ s.rd, x ∈ ns.map (·.nm)
  ln : ns.length ≤ 4000
theorem are_steps_eq {ns : Nt} (h : NtOk ns) : m_are_steps [.val (.lst (ns.map stpD))] = some (.bl true, []) := by
  have c := cLoop_flt (t := .nm 3) (tt := bNot (sB (s1 (gIsC 0) (sV 3)))) (e := sV 3) (ρ := [.val (.lst (ns.map stpD)), .no, .no, .no, .no]) (g := stpD) (f := fun _ => none) (ds := ns) fun x hx => by
    have q : gIsC 0 (stpD x) = some (.bl true) := rfl
    simp only [turnC, okT, Tg.ix, List.all_cons, List.all_nil, List.getElem?_cons_succ, List.getElem?_cons_zero, Bool.and_true, if_true, blkR, wipeR, toB, List.map_cons, List.map_nil, tgt, List.set_cons_succ, List.set_cons_zero, bNot, sB, s1, sV, q, Bool.not_true, restore, Option.map_some]
  rw [fm_none] at c
  have ev : gEqL (.lst (ns.map stpD)) (.lst []) = some (.bl false) := by
    cases ns with
    | nil => exact absurd rfl h.ne
    | cons a r => rfl
  have t1 : bOr (bNot (sB (s1 (gIsTy 3) (sV 0)))) (bOr (sB (s2 gEqL (sV 0) (sL gLst aN))) (sB (s2 gNe (sComp (iSeq (sV 0)) (.nm 3) (bNot (sB (s1 (gIsC 0) (sV 3)))) (sV 3)) (sL gLst aN)))) [.val (.lst (ns.map stpD)), .no, .no, .no, .no] = some (false, [.val (.lst (ns.map stpD)), .no, .no, .no, .no]) := by
    have a : bNot (sB (s1 (gIsTy 3) (sV 0))) [.val (.lst (ns.map stpD)), .no, .no, .no, .no] = some (false, [.val (.lst (ns.map stpD)), .no, .no, .no, .no]) := rfl
    have b : sB (s2 gEqL (sV 0) (sL gLst aN)) [.val (.lst (ns.map stpD)), .no, .no, .no, .no] = some (false, [.val (.lst (ns.map stpD)), .no, .no, .no, .no]) := sB_of (s2_of rfl rfl ev)
    unfold bOr
    rw [a]
    simp only [b]
    exact sB_of (s2_of (sComp_of rfl c (by decide)) rfl rfl)
  have c2 := cLoop_map (t := .nm 2) (tt := bYes) (e := s1 (gFld 0 0) (sV 2)) (ρ := [.val (.lst (ns.map stpD)), .no, .no, .no, .no]) (g := stpD) (f := fun s => D.str s.nm) (ds := ns) fun x hx => by
    simp only [turnC, okT, Tg.ix, List.all_cons, List.all_nil, List.getElem?_cons_succ, List.getElem?_cons_zero, Bool.and_true, if_true, blkR, wipeR, toB, List.map_cons, List.map_nil, tgt, List.set_cons_succ, List.set_cons_zero, bYes, s1, sV, name_eq, restore, Option.map_some]
  have w1 : ns.map (fun s => D.str s.nm) = (ns.map (·.nm)).map D.str := by rw [List.map_map]; rfl
  rw [w1] at c2
  have l2 : ((ns.map (·.nm)).map D.str).length ≤ LN := by
    rw [List.length_map, List.length_map]
    exact Nat.le_trans h.ln (by decide)
  have an := are_names_eq (L := ns.map (·.nm)) (fun x hx => by
    obtain ⟨s, hs, rfl⟩ := List.mem_map.mp hx
    exact (h.st s hs).nm) h.nd (by rw [List.length_map]; exact h.ln)
  have lp : ∀ (l : List Stp) (x2 : Sl), (∀ s ∈ l, s ∈ ns) → ∃ y2, kLoop (.nm 2) (kIf (sB (s2 gNe (sComp (iTupl (s1 (gFld 0 3) (sV 2))) (.nm 4) (sB (s2 gNotIn (sV 4) (sV 1))) (sV 4)) (sL gLst aN))) (kRet (sK (.bl false))) kN) (l.map stpD) [.val (.lst (ns.map stpD)), .val (.lst ((ns.map (·.nm)).map D.str)), x2, .no, .no] =
      some (.nx, [.val (.lst (ns.map stpD)), .val (.lst ((ns.map (·.nm)).map D.str)), y2, .no, .no]) := by
    intro l
    induction l with
    | nil => exact fun x2 _ => ⟨x2, rfl⟩
    | cons s r ih =>
      intro x2 hs
      obtain ⟨y2, e⟩ := ih (.val (stpD s)) fun t ht => hs t (List.mem_cons_of_mem _ ht)
      have c3 := cLoop_flt (t := .nm 4) (tt := sB (s2 gNotIn (sV 4) (sV 1))) (e := sV 4) (ρ := [.val (.lst (ns.map stpD)), .val (.lst ((ns.map (·.nm)).map D.str)), .val (stpD s), .no, .no]) (g := D.str) (f := fun _ => none) (ds := s.rd) fun x hx => by
        have q : gNotIn (.str x) (.lst ((ns.map (·.nm)).map .str)) = some (.bl false) := by
          rw [gNotIn_lst, decide_eq_true (h.rd s (hs s List.mem_cons_self) x hx)]
          rfl
        simp only [turnC, okT, Tg.ix, List.all_cons, List.all_nil, List.getElem?_cons_succ, List.getElem?_cons_zero, Bool.and_true, if_true, blkR, wipeR, toB, List.map_cons, List.map_nil, tgt, List.set_cons_succ, List.set_cons_zero, sB, s2, sV, q, restore, Option.map_some]
      rw [fm_none] at c3
      exact ⟨y2, kLoop_nx rfl (kIf_f (sB_of (s2_of (sComp_of (ds := s.rd.map D.str) rfl c3 (by decide)) rfl rfl)) rfl) e⟩
  obtain ⟨y2, e⟩ := lp ns .no fun s hs => hs
  exact mir_rt (ρ0 := [_, _, _, _, _]) rfl (kS_nx (kIf_f t1 rfl) (kS_nx (kSet_of (sComp_of rfl c2 l2)) (kS_nx (kIf_f (ρ1 := [.val (.lst (ns.map stpD)), .val (.lst ((ns.map (·.nm)).map D.str)), .no, .no, .no]) (by
    simp only [bNot, sB, sCall, aC, aN, sV, List.set_cons_zero, List.set_cons_succ, List.getElem?_cons_zero, List.getElem?_cons_succ, List.map_cons, List.map_nil, List.length_cons, List.length_nil, Nat.zero_add, if_true, an, Bool.not_true]) rfl) (kS_nx (kFor_of rfl e) (kRet_of rfl))))) rfl
theorem net_init_eq {ns : Nt} (h : NtOk ns) : m_Net_init [.slf 1 [], .val (.lst (ns.map stpD))] = some (.non, [.tup (ns.map stpD)]) := by
  have q := are_steps_eq h
  exact mir_nx (ρ0 := [_, _]) rfl (kS_nx (kIf_f (ρ1 := [.slf 1 [], .val (.lst (ns.map stpD))]) (by
    simp only [bNot, sB, sCall, aC, aN, sV, List.getElem?_cons_zero, List.getElem?_cons_succ, List.map_cons, List.map_nil, List.length_cons, List.length_nil, Nat.zero_add, if_true, q, Bool.not_true]) rfl) rfl) rfl
end Toy

set_option Elab.async false
set_option linter.all false
set_option maxRecDepth 100000
set_option maxHeartbeats 8000000
namespace Toy
open PySem PySem.Spec PyProof.Rows L2 VS
theorem kLoop_rt {t : Tg} {b : SS} {d : D} {r : List D} {ρ ρ1 ρ2 : Rho} {x : D} (h1 : tgt t d ρ = some ρ1) (h2 : b ρ1 = some (.rt x, ρ2)) : kLoop t b (d :: r) ρ = some (.rt x, ρ2) := by
  unfold kLoop
  rw [h1]
  simp only [h2]
theorem kS_rt {a b : SS} {ρ ρ1 : Rho} {x : D} (h : a ρ = some (.rt x, ρ1)) : kS a b ρ = some (.rt x, ρ1) := by
  unfold kS
  rw [h]
theorem gEq_str {x y : Str} : gEq (.str x) (.str y) = some (.bl (decide (x = y))) := rfl
theorem po_loop (nt : D) (x : Str) : ∀ (l : List Stp) (k : Nat) (a b : Sl) (j : Nat) (s : Stp), l[j]? = some s → s.nm = x → (l.map (·.nm)).Nodup →
    ∃ ρ, kLoop (.tp [2, 3]) (kIf (sB (s2 gEq (s1 (gFld 0 0) (sV 3)) (sV 1))) (kRet (sV 2)) kN) (enumF k (l.map stpD)) [.val nt, .val (.str x), a, b] = some (.rt (.int ((k + j : Nat) : Int)), .val nt :: ρ)
  | [], k, a, b, j, s, h, _, _ => by simp at h
  | t :: l, k, a, b, 0, s, h, e, nd => by
    have ht : t = s := by simpa using h
    subst ht
    have q : gEq (.str t.nm) (.str x) = some (.bl true) := by rw [gEq_str, decide_eq_true e]
    refine ⟨_, kLoop_rt (ρ1 := [.val nt, .val (.str x), .val (.int (k : Nat)), .val (stpD t)]) rfl (kIf_t (sB_of (s2_of (s1_of rfl name_eq) rfl q)) (kRet_of rfl))⟩
  | t :: l, k, a, b, j + 1, s, h, e, nd => by
    have h' : l[j]? = some s := by simpa using h
    rw [List.map_cons, List.nodup_cons] at nd
    have ne : t.nm ≠ x := fun z => nd.1 (by rw [z, ← e]; exact List.mem_map.mpr ⟨s, List.mem_of_getElem? h', rfl⟩)
    have q : gEq (.str t.nm) (.str x) = some (.bl false) := by rw [gEq_str, decide_eq_false ne]
    obtain ⟨ρ, r⟩ := po_loop nt x l (k + 1) (.val (.int (k : Nat))) (.val (stpD t)) j s h' e nd.2
    rw [show k + (j + 1) = k + 1 + j by omega]
    refine ⟨ρ, kLoop_nx (ρ1 := [.val nt, .val (.str x), .val (.int (k : Nat)), .val (stpD t)]) rfl (kIf_f (sB_of (s2_of (s1_of rfl name_eq) rfl q)) rfl) r⟩
theorem iEnT_of {a : SA} {ρ ρ1 : Rho} {xs : List D} (h : a ρ = some ([.tup xs], ρ1)) : iEnT a ρ = some (enumF 0 xs, ρ1) := by
  unfold iEnT
  rw [h]
theorem place_of_eq {ns : Nt} (h : NtOk ns) {j : Nat} {s : Stp} (e : ns[j]? = some s) : m_place_of [.val (netD ns), .val (.str s.nm)] = some (.int (j : Nat), []) := by
  obtain ⟨ρ, r⟩ := po_loop (netD ns) s.nm ns 0 .no .no j s e rfl h.nd
  rw [Nat.zero_add] at r
  have it := iEnT_of (a := aC (s1 (gFld 1 0) (sV 0)) aN) (ρ := [.val (netD ns), .val (.str s.nm), .no, .no]) (aC_of (s1_of rfl nodes_eq) rfl)
  have t1 : bNot (sB (s1 (gIsTy 2) (sV 1))) [.val (netD ns), .val (.str s.nm), .no, .no] = some (false, [.val (netD ns), .val (.str s.nm), .no, .no]) := rfl
  exact mir_rt (ρ0 := [_, _, _, _]) rfl (kS_nx (kIf_f t1 rfl) (kS_rt (kFor_of it r))) rfl
/-- a path of a net by its places -/
structure PaOk (ns : Nt) (P : List Nat) : Prop where
  nt : NtOk ns
  pi : ∀ i ∈ P, i < ns.length
  ne : P ≠ []
  st : ∀ j, j + 1 < P.length → ∃ s t : Stp, ns[atP P j]? = some s ∧ ns[atP P (j + 1)]? = some t ∧ s.nm ∈ t.rd
  ln : P.length ≤ 4000
def nmA (ns : Nt) (i : Nat) : Str := ((ns[i]?).map (·.nm)).getD Str.empty
def pathD (ns : Nt) (P : List Nat) : List D := P.map fun i => .str (nmA ns i)
theorem PaOk.at (h : PaOk ns P) {i : Nat} (hi : i ∈ P) : ∃ s, ns[i]? = some s ∧ nmA ns i = s.nm := by
  have q := h.pi i hi
  have e : ns[i]? = some ns[i] := by simp [q]
  exact ⟨ns[i], e, by simp [nmA, e]⟩
theorem PaOk.place (h : PaOk ns P) {i : Nat} (hi : i ∈ P) : m_place_of [.val (netD ns), .val (.str (nmA ns i))] = some (.int (i : Nat), []) := by
  obtain ⟨s, e1, e2⟩ := h.at hi
  rw [e2]
  exact place_of_eq h.nt e1
theorem places_of_eq {ns : Nt} {P : List Nat} (h : PaOk ns P) : m_places_of [.val (netD ns), .val (.lst (pathD ns P))] = some (.lst (P.map fun i => .int (i : Nat)), []) := by
  have c := cLoop_map (t := .nm 2) (tt := bYes) (e := sCall 2 m_place_of (aC (sV 0) (aC (sV 2) aN))) (ρ := [.val (netD ns), .val (.lst (pathD ns P)), .no]) (g := fun i : Nat => D.str (nmA ns i)) (f := fun i : Nat => D.int (i : Nat)) (ds := P) fun i hi => by
    have q := h.place hi
    simp only [turnC, okT, Tg.ix, List.all_cons, List.all_nil, List.getElem?_cons_succ, List.getElem?_cons_zero, Bool.and_true, if_true, blkR, wipeR, toB, List.map_cons, List.map_nil, tgt, List.set_cons_succ, List.set_cons_zero, bYes, sCall, aC, aN, sV, List.length_cons, List.length_nil, Nat.zero_add, q, restore, Option.map_some]
  have l : (P.map fun i => D.int (i : Nat)).length ≤ LN := by
    rw [List.length_map]
    exact Nat.le_trans h.ln (by decide)
  exact mir_rt (ρ0 := [_, _, _]) rfl (kRet_of (sComp_of rfl c l)) rfl
theorem zipP : ∀ (xs : List D), zipD xs (xs.drop 1) = (List.range (xs.length - 1)).map fun j => .tup [(xs[j]?).getD .non, (xs[j + 1]?).getD .non] := by
  intro xs
  apply List.ext_getElem
  · simp [zipD]
  · intro i h1 h2
    simp [zipD] at h1 h2 ⊢
    rw [List.getElem?_eq_getElem (by omega), List.getElem?_eq_getElem (by omega)]
    simp
theorem check_path_eq {ns : Nt} {P : List Nat} (h : PaOk ns P) : m_check_path [.val (netD ns), .val (.lst (pathD ns P))] = some (.non, []) := by
  have c := cLoop_flt (t := .nm 2) (tt := sB (s1 gIsN (sCall 2 m_place_of (aC (sV 0) (aC (sV 2) aN))))) (e := sV 2) (ρ := [.val (netD ns), .val (.lst (pathD ns P)), .no, .no]) (g := fun i : Nat => D.str (nmA ns i)) (f := fun _ => none) (ds := P) fun i hi => by
    have q := h.place hi
    have q2 : gIsN (.int (i : Nat)) = some (.bl false) := rfl
    simp only [turnC, okT, Tg.ix, List.all_cons, List.all_nil, List.getElem?_cons_succ, List.getElem?_cons_zero, Bool.and_true, if_true, blkR, wipeR, toB, List.map_cons, List.map_nil, tgt, List.set_cons_succ, List.set_cons_zero, sB, s1, sCall, aC, aN, sV, List.length_cons, List.length_nil, Nat.zero_add, q, q2, restore, Option.map_some]
  rw [fm_none] at c
  have ev : gEqL (.lst (pathD ns P)) (.lst []) = some (.bl false) := by
    have := h.ne
    cases P with
    | nil => exact absurd rfl this
    | cons a r => rfl
  have t1 : bOr (bNot (sB (s1 (gIsTy 3) (sV 1)))) (bOr (sB (s2 gEqL (sV 1) (sL gLst aN))) (sB (s2 gNe (sComp (iSeq (sV 1)) (.nm 2) (sB (s1 gIsN (sCall 2 m_place_of (aC (sV 0) (aC (sV 2) aN))))) (sV 2)) (sL gLst aN)))) [.val (netD ns), .val (.lst (pathD ns P)), .no, .no] = some (false, [.val (netD ns), .val (.lst (pathD ns P)), .no, .no]) := by
    have a : bNot (sB (s1 (gIsTy 3) (sV 1))) [.val (netD ns), .val (.lst (pathD ns P)), .no, .no] = some (false, [.val (netD ns), .val (.lst (pathD ns P)), .no, .no]) := rfl
    have b : sB (s2 gEqL (sV 1) (sL gLst aN)) [.val (netD ns), .val (.lst (pathD ns P)), .no, .no] = some (false, [.val (netD ns), .val (.lst (pathD ns P)), .no, .no]) := sB_of (s2_of rfl rfl ev)
    unfold bOr
    rw [a]
    simp only [b]
    exact sB_of (s2_of (sComp_of rfl c (by decide)) rfl rfl)
  have lp : ∀ (l : List Nat) (x2 x3 : Sl), (∀ j ∈ l, j + 1 < P.length) → ∃ y2 y3, kLoop (.tp [2, 3]) (kIf (sB (s2 gNotIn (sV 2) (s1 (gFld 0 3) (s2 gIx (s1 (gFld 1 0) (sV 0)) (sCall 2 m_place_of (aC (sV 0) (aC (sV 3) aN))))))) kNever kN)
      (l.map fun j => .tup [((pathD ns P)[j]?).getD .non, ((pathD ns P)[j + 1]?).getD .non]) [.val (netD ns), .val (.lst (pathD ns P)), x2, x3] = some (.nx, [.val (netD ns), .val (.lst (pathD ns P)), y2, y3]) := by
    intro l
    induction l with
    | nil => exact fun x2 x3 _ => ⟨x2, x3, rfl⟩
    | cons j r ih =>
      intro x2 x3 hj
      have lt := hj j List.mem_cons_self
      obtain ⟨s, t, e1, e2, e3⟩ := h.st j lt
      have p1 : P[j]? = some (atP P j) := by
        have : P[j]? = some P[j] := by simp [show j < P.length by omega]
        simp [atP, this]
      have p2 : P[j + 1]? = some (atP P (j + 1)) := by
        have : P[j + 1]? = some P[j + 1] := by simp [lt]
        simp [atP, this]
      have d1 : ((pathD ns P)[j]?).getD .non = .str s.nm := by
        unfold pathD
        rw [map_get p1]
        simp [nmA, e1]
      have d2 : ((pathD ns P)[j + 1]?).getD .non = .str t.nm := by
        unfold pathD
        rw [map_get p2]
        simp [nmA, e2]
      have pl := place_of_eq h.nt e2
      have g1 : gIx (.tup (ns.map stpD)) (.int (atP P (j + 1) : Nat)) = some (stpD t) := by
        rw [gIx_tup, atI_nat]
        exact map_get e2
      have g2 : gNotIn (.str s.nm) (.tup (t.rd.map .str)) = some (.bl false) := by
        rw [gNotIn_tup, decide_eq_true e3]
        rfl
      obtain ⟨y2, y3, e⟩ := ih (.val (.str s.nm)) (.val (.str t.nm)) fun k hk => hj k (List.mem_cons_of_mem _ hk)
      rw [List.map_cons, d1, d2]
      exact ⟨y2, y3, kLoop_nx rfl (kIf_f (sB_of (s2_of rfl (s1_of (s2_of (s1_of rfl nodes_eq) (sCall_of (aC_of rfl (aC_of rfl rfl)) rfl pl) g1) srcs_eq) g2)) rfl) e⟩
  obtain ⟨y2, y3, e⟩ := lp (List.range ((pathD ns P).length - 1)) .no .no fun j hj => by
    have := List.mem_range.mp hj
    unfold pathD at this
    rw [List.length_map] at this
    omega
  rw [← zipP] at e
  have it := iZi_of (a := aC (sV 1) (aC (sSl (sV 1) (oS (sK (.int 1))) oN) aN)) (ρ := [.val (netD ns), .val (.lst (pathD ns P)), .no, .no]) (aC_of rfl (aC_of (sSl_of rfl rfl rfl gSl1) rfl))
  exact mir_nx (ρ0 := [_, _, _, _]) rfl (kS_nx (kIf_f t1 rfl) (kFor_of it e)) rfl
end Toy

set_option Elab.async false
set_option linter.all false
set_option maxRecDepth 100000
set_option maxHeartbeats 8000000
namespace Toy
open PySem PySem.Spec PyProof.Rows L2 VS
theorem kSet_to' {i : Nat} {e : SE} {ρ ρ1 ρ2 : Rho} {d : D} (h : e ρ = some (d, ρ1)) (h2 : ρ1.set i (.val d) = ρ2) : kSet i e ρ = some (.nx, ρ2) := by
  rw [kSet_of h, h2]
theorem callM {n : Nat} {m : Mir} {i : Nat} {a : SA} {ρ ρ1 ρ2 : Rho} {xs ys0 ys out : List D} {d : D} (h0 : conM ρ i = some ys0) (h : a ρ = some (xs, ρ1)) (hn : xs.length + 1 = n) (h1 : conM ρ1 i = some ys) (hm : m (.bor ys :: xs.map .val) = some (d, out)) (h2 : setM ρ1 i out = ρ2) :
    sCallM n m i a ρ = some (d, ρ2) := by
  unfold sCallM
  rw [h0, h]
  simp only [hn, if_true, h1, hm, h2]
theorem cut_from {xs : List D} {c : Nat} (h : c ≤ xs.length) : VS.cutD xs (some (c : Int)) none = xs.drop c := by
  unfold VS.cutD
  rw [HT.sIx_nat, HT.sIx_none, Nat.min_eq_left h, List.take_of_length_le (by rw [List.length_drop]; omega)]
theorem cut_to {xs : List D} {c : Nat} (h : c ≤ xs.length) : VS.cutD xs none (some (c : Int)) = xs.take c := by
  unfold VS.cutD
  rw [HT.sIx_nat, HT.sIx_none, Nat.min_eq_left h]
  simp
/-! the drawn periods -/
def spL : List (List Int) := [[4, 6], [1, 5], [6, 4], [10, 4], [7, 3], [12, 12], [9, 6], [20, 50], [60, 45], [2, 3], [8, 8], [7], [1], [4, 6, 10], [2, 3, 4], [6, 6, 4], [5, 3, 2], [8, 12, 6], [1, 1, 1], [10, 5, 20], [3, 3, 3], [6, 10, 15], [4, 6, 10], [2, 4, 8], [6, 9, 4], [2, 3, 4, 6], [1, 2, 3, 4], [2, 2, 2, 2], [3, 4, 2, 2], [4, 4, 2, 8]]
def spD : List D := spL.map fun l => .lst (l.map .int)
def perOk (L : List Int) : Bool := decide (1 ≤ L.length) && decide (L.length ≤ 4) && L.all (fun p => decide (0 < p) && decide (p ≤ 60)) && decide (lcmL L ≤ 100000)
theorem spL_ok : (spL.all fun l => (List.range l.length).all fun c => perOk (l.drop c ++ l.take c)) = true := by decide +kernel
theorem law_periods_eq {k : Nat} {xs : List D} (h : PuB k xs) (hk : k ≤ 500000) : ∃ L ys, m_law_periods [.bor xs] = some (.lst (L.map .int), ys) ∧ perOk L = true ∧ PuB (k + 2) ys := by
  obtain ⟨d, x, ys, e1, e2, h1⟩ := law_pick_eq (its := spD) h (by omega) (by decide) (by decide)
  obtain ⟨l, hl, rfl⟩ : ∃ l, l ∈ spL ∧ x = .lst (l.map .int) := by
    have := List.mem_of_getElem? e2
    obtain ⟨l, a, b⟩ := List.mem_map.mp this
    exact ⟨l, a, b.symm⟩
  have ok := List.all_eq_true.mp spL_ok l hl
  have pos : 0 < l.length := by
    have q : (spL.all fun l => decide (0 < l.length)) = true := by decide +kernel
    exact of_decide_eq_true (List.all_eq_true.mp q l hl)
  have le4 : l.length ≤ 4 := by
    have q : (spL.all fun l => decide (l.length ≤ 4)) = true := by decide +kernel
    exact of_decide_eq_true (List.all_eq_true.mp q l hl)
  obtain ⟨c, zs, e3, l3, u3, h3⟩ := law_draw_eq (m := (l.map D.int).length) h1 (by omega) (by rw [List.length_map]; omega) ((sm_of (k := 20) (by omega) (by rw [List.length_map]; omega)).mono (by decide))
  obtain ⟨cn, rfl⟩ := Int.eq_ofNat_of_zero_le l3
  have cl : cn < l.length := by rw [List.length_map] at u3; omega
  have pk := List.all_eq_true.mp ok cn (List.mem_range.mpr cl)
  refine ⟨l.drop cn ++ l.take cn, zs, ?_, pk, h3.mono (by omega)⟩
  have e1' : m_law_pick [.bor xs, .val (.lst spD)] = some (.lst (l.map .int), ys) := e1
  have f1 : gSl (.lst (l.map .int)) (some (cn : Int)) none = some (.lst ((l.map .int).drop cn)) := by
    show some (D.lst (VS.cutD _ _ _)) = _
    rw [cut_from (by rw [List.length_map]; omega)]
  have f2 : gSl (.lst (l.map .int)) none (some (cn : Int)) = some (.lst ((l.map .int).take cn)) := by
    show some (D.lst (VS.cutD _ _ _)) = _
    rw [cut_to (by rw [List.length_map]; omega)]
  have f3 : gAdd (.lst ((l.map .int).drop cn)) (.lst ((l.map .int).take cn)) = some (.lst ((l.drop cn ++ l.take cn).map .int)) := by
    have : ((l.map D.int).drop cn).length + ((l.map D.int).take cn).length ≤ LN := by
      rw [List.length_drop, List.length_take, List.length_map]
      have : l.length - cn + min cn l.length ≤ 8 := by omega
      exact Nat.le_trans this (by decide)
    show (if _ then _ else _) = _
    rw [if_pos this, List.map_append, List.map_drop, List.map_take]
  have g1 : gList [.lst (l.map .int)] = some (.lst (l.map .int)) := rfl
  refine mir_rt (ρ0 := [.bor xs, .no, .no, .no]) (ρ := [.bor zs, .val (.lst spD), .val (.lst (l.map .int)), .val (.int (cn : Nat))]) rfl ?_ rfl
  refine kS_nx (ρ1 := [.bor xs, .val (.lst ((spL.take 13).map fun l => .lst (l.map .int))), .no, .no]) (by kernel_rfl) ?_
  refine kS_nx (ρ1 := [.bor xs, .val (.lst ((spL.take 21).map fun l => .lst (l.map .int))), .no, .no]) (by kernel_rfl) ?_
  refine kS_nx (ρ1 := [.bor xs, .val (.lst ((spL.take 28).map fun l => .lst (l.map .int))), .no, .no]) (by kernel_rfl) ?_
  refine kS_nx (ρ1 := [.bor xs, .val (.lst spD), .no, .no]) (by kernel_rfl) ?_
  refine kS_nx (ρ1 := [.bor ys, .val (.lst spD), .val (.lst (l.map .int)), .no]) (kSet_to' (sL_of (aC_of (callM rfl (aC_of rfl rfl) rfl rfl e1' rfl) rfl) g1) rfl) ?_
  refine kS_nx (ρ1 := [.bor zs, .val (.lst spD), .val (.lst (l.map .int)), .val (.int (cn : Nat))]) (kSet_to' (callM rfl (aC_of (sL_of (aC_of rfl rfl) gLen_lst) rfl) rfl rfl e3 rfl) rfl) ?_
  exact kRet_of (s2_of (sSl_of rfl rfl rfl f1) (sSl_of rfl rfl rfl f2) f3)
end Toy

set_option Elab.async false
set_option linter.all false
set_option maxRecDepth 100000
set_option maxHeartbeats 8000000
namespace Toy
open PySem PySem.Spec PyProof.Rows L2 VS
theorem sm60 {i : Int} (h : -1000 ≤ i) (h2 : i ≤ 1000) : Sm 60 i := by
  have z : (1000 : Nat) < 2 ^ 60 := by decide
  unfold Sm
  omega
/-! the drawn names -/
def alph : Str := "abcdefghijklmnopqrstuvwxyz"
def letter (j : Nat) : Str := match gIx (.str alph) (.int (j : Nat)) with
  | some (.str x) => x
  | _ => Str.empty
def wordsL : List Str := ["", "a", "zz", "step", "runner", "qqqqqqq"]
def isOk (x : Str) : Bool := match m_is_name [.val (.str x)] with
  | some (.bl true, []) => true
  | _ => false
theorem isOk_nm {x : Str} (h : isOk x = true) : NmOk x := by
  unfold isOk at h
  split at h
  · rename_i e
    exact e
  · cases h
theorem letter_ok : ((List.range 26).all fun j => match gIx (.str alph) (.int (j : Nat)) with | some (.str _) => true | _ => false) = true := by decide +kernel
theorem names_ok : (wordsL.all fun w => (List.range 26).all fun j => isOk (w ++ letter j)) = true := by decide +kernel
theorem words_ln : (wordsL.all fun w => (List.range 26).all fun j => decide (w.length + (letter j).length ≤ LN)) = true := by decide +kernel
def nmN (w : Str) (f i : Nat) : Str := w ++ letter ((f + 3 * i) % 26)
theorem names_nd : (wordsL.all fun w => (List.range 26).all fun f => decide ((List.range 4).map (nmN w f)).Nodup) = true := by decide +kernel
theorem letter_eq {j : Nat} (h : j < 26) : gIx (.str alph) (.int (j : Nat)) = some (.str (letter j)) := by
  have q := List.all_eq_true.mp letter_ok j (List.mem_range.mpr h)
  split at q
  · rename_i x e
    rw [e]
    unfold letter
    rw [e]
  · cases q
theorem law_names_eq {k n : Nat} {xs : List D} (h : PuB k xs) (hk : k ≤ 500000) (hn : n ≤ 4) : ∃ (L : List Str) (ys : List D), m_law_names [.bor xs, .val (.int (n : Nat))] = some (.lst (L.map .str), ys) ∧ L.length = n ∧ L.Nodup ∧ (∀ x ∈ L, NmOk x) ∧ PuB (k + 2) ys := by
  obtain ⟨f, ys, e1, l1, u1, h1⟩ := law_draw_eq (m := 26) h (by omega) (by decide) (sm_of (k := 3000) (by decide) (by decide +kernel))
  obtain ⟨fn, rfl⟩ := Int.eq_ofNat_of_zero_le l1
  obtain ⟨d, x, zs, e2, e3, h2⟩ := law_pick_eq (its := wordsL.map .str) h1 (by omega) (by decide) (by decide)
  obtain ⟨w, hw, rfl⟩ : ∃ w, w ∈ wordsL ∧ x = .str w := by
    have := List.mem_of_getElem? e3
    obtain ⟨l, a, b⟩ := List.mem_map.mp this
    exact ⟨l, a, b.symm⟩
  have fl : fn < 26 := by omega
  have nd := of_decide_eq_true (List.all_eq_true.mp (List.all_eq_true.mp names_nd w hw) fn (List.mem_range.mpr fl))
  have e4 : (List.range n).map (nmN w fn) = ((List.range 4).map (nmN w fn)).take n := by
    rw [← List.map_take, List.take_range, Nat.min_eq_left hn]
  refine ⟨(List.range n).map (nmN w fn), zs, ?_, by simp, by rw [e4]; exact nd.sublist (List.take_sublist _ _), fun x hx => ?_, h2.mono (by omega)⟩
  · have c := cLoop_map (t := .nm 5) (tt := bYes) (e := s2 gAdd (sV 3) (s2 gIx (sV 4) (s2 gSub (s2 gAdd (sV 2) (s2 gMul (sK (.int 3)) (sV 5))) (s2 gMul (s2 gFdiv (s2 gAdd (sV 2) (s2 gMul (sK (.int 3)) (sV 5))) (sK (.int 26))) (sK (.int 26))))))
      (ρ := [.bor zs, .val (.int (n : Nat)), .val (.int (fn : Nat)), .val (.str w), .val (.str alph), .no]) (g := fun i : Nat => D.int (0 + (i : Nat))) (f := fun i => D.str (nmN w fn i)) (ds := List.range n) fun i hi => by
        have il : i < n := List.mem_range.mp hi
        have b3 : Bd 3 := (sm60 (by decide) (by decide)).bd (by decide)
        have bi : Bd (0 + (i : Int)) := (sm60 (by omega) (by omega)).bd (by decide)
        have b26 : Bd 26 := (sm60 (by decide) (by decide)).bd (by decide)
        have bq : Bd (((fn : Int) + 3 * (0 + (i : Int))) / 26) := (sm60 (by omega) (by omega)).bd (by decide)
        have p26 : (0 : Int) < 26 := by decide
        have mo : (fn : Int) + 3 * (0 + (i : Int)) - ((fn : Int) + 3 * (0 + (i : Int))) / 26 * 26 = (((fn + 3 * i) % 26 : Nat) : Int) := by omega
        have ml : (fn + 3 * i) % 26 < 26 := Nat.mod_lt _ (by decide)
        have ad : gAdd (.str w) (.str (letter ((fn + 3 * i) % 26))) = some (.str (nmN w fn i)) := by
          have q := of_decide_eq_true (List.all_eq_true.mp (List.all_eq_true.mp words_ln w hw) _ (List.mem_range.mpr ml))
          exact if_pos q
        simp only [turnC, okT, Tg.ix, List.all_cons, List.all_nil, List.getElem?_cons_succ, List.getElem?_cons_zero, Bool.and_true, if_true, blkR, wipeR, toB, List.map_cons, List.map_nil, tgt, List.set_cons_succ, List.set_cons_zero, bYes, s2, sV, sK, gMul_eq b3 bi, gAdd_eq, gFdiv_eq p26 b26, gMul_eq bq b26, gSub_eq, mo, letter_eq ml, ad, restore, Option.map_some]
    have l : ((List.range n).map fun i => D.str (nmN w fn i)).length ≤ LN := by
      rw [List.length_map, List.length_range]
      exact Nat.le_trans hn (by decide)
    have w1 : ((List.range n).map (nmN w fn)).map D.str = (List.range n).map fun i => D.str (nmN w fn i) := by rw [List.map_map]; rfl
    rw [w1]
    have e2' : m_law_pick [.bor ys, .val (.lst [.str "", .str "a", .str "zz", .str "step", .str "runner", .str "qqqqqqq"])] = some (.str w, zs) := e2
    have g6 : gLst [.str "", .str "a", .str "zz", .str "step", .str "runner", .str "qqqqqqq"] = some (.lst [.str "", .str "a", .str "zz", .str "step", .str "runner", .str "qqqqqqq"]) := by
      unfold gLst
      rw [if_pos (by decide)]
    have sm : small62 ((n : Nat) : Int) := ⟨by omega, by omega⟩
    have it : iR (aC (sV 1) aN) [.bor zs, .val (.int (n : Nat)), .val (.int (fn : Nat)), .val (.str w), .val (.str alph), .no] = some ((List.range n).map fun i : Nat => D.int (0 + (i : Nat)), [.bor zs, .val (.int (n : Nat)), .val (.int (fn : Nat)), .val (.str w), .val (.str alph), .no]) := by
      simp only [iR, aC, aN, sV, List.getElem?_cons_zero, List.getElem?_cons_succ, sm, if_true, Int.toNat_natCast, rng]
    refine mir_rt (ρ0 := [.bor xs, .val (.int (n : Nat)), .no, .no, .no, .no]) (ρ := [.bor zs, .val (.int (n : Nat)), .val (.int (fn : Nat)), .val (.str w), .val (.str alph), .no]) rfl ?_ rfl
    refine kS_nx (ρ1 := [.bor zs, .val (.int (n : Nat)), .val (.int (fn : Nat)), .val (.str w), .no, .no]) (kTup_of (sL_of (aC_of (callM rfl (aC_of rfl rfl) rfl rfl e1 rfl) (aC_of (callM rfl (aC_of (sL_of (aC_of rfl (aC_of rfl (aC_of rfl (aC_of rfl (aC_of rfl (aC_of rfl rfl)))))) g6) rfl) rfl rfl e2' rfl) rfl)) gTup2) rfl) ?_
    refine kS_nx (ρ1 := [.bor zs, .val (.int (n : Nat)), .val (.int (fn : Nat)), .val (.str w), .val (.str alph), .no]) (kSet_to' rfl rfl) ?_
    exact kRet_of (sComp_of it c l)
  · obtain ⟨i, _, rfl⟩ := List.mem_map.mp hx
    exact isOk_nm (List.all_eq_true.mp (List.all_eq_true.mp names_ok w hw) _ (List.mem_range.mpr (Nat.mod_lt _ (by decide))))
end Toy

set_option Elab.async false
set_option linter.all false
set_option maxRecDepth 100000
set_option maxHeartbeats 8000000
namespace Toy
open PySem PySem.Spec PyProof.Rows L2 VS
/-! the drawn net -/
def vo' : Option D → Sl
  | none => .no
  | some d => .val d
theorem pick_names : ∀ (L : List Str) (k : Nat) (xs fs : List D) (a1 a2 a4 : D) (o5 o6 : Option D), PuB k xs → k + L.length ≤ 500000 → ∃ (R : List Str) (ys : List D), R.Sublist L ∧
    cLoop (.nm 7) (sB (s2 gEq (sCallM 2 m_law_draw 0 (aC (sK (.int 4)) aN)) (sK (.int 0)))) (sV 7) (L.map .str) [.bor xs, .val a1, .val a2, .own fs, .val a4, vo' o5, vo' o6, .no] =
      some (R.map .str, [.bor ys, .val a1, .val a2, .own fs, .val a4, vo' o5, vo' o6, .no]) ∧ PuB (k + L.length) ys
  | [], k, xs, fs, a1, a2, a4, o5, o6, h, _ => ⟨[], xs, List.Sublist.refl _, rfl, h⟩
  | x :: L, k, xs, fs, a1, a2, a4, o5, o6, h, hk => by
    obtain ⟨d, ys, e1, l1, u1, h1⟩ := law_draw_eq (m := 4) h (by simp at hk; omega) (by decide) (sm_of (k := 3000) (by decide) (by decide +kernel))
    obtain ⟨R, zs, sl, e2, h2⟩ := pick_names L (k + 1) ys fs a1 a2 a4 o5 o6 h1 (by simp at hk; omega)
    have hp : PuB (k + (x :: L).length) zs := h2.mono (by simp; omega)
    have e1' : m_law_draw (.bor xs :: [.val (.int 4)]) = some (.int d, ys) := e1
    by_cases z : d = 0
    · refine ⟨x :: R, zs, sl.cons₂ x, ?_, hp⟩
      have g : gEq (.int d) (.int 0) = some (.bl true) := by rw [gEq_int, decide_eq_true z]
      have t : turnC (.nm 7) (sB (s2 gEq (sCallM 2 m_law_draw 0 (aC (sK (.int 4)) aN)) (sK (.int 0)))) (sV 7) (.str x) [.bor xs, .val a1, .val a2, .own fs, .val a4, vo' o5, vo' o6, .no] = some (some (.str x), [.bor ys, .val a1, .val a2, .own fs, .val a4, vo' o5, vo' o6, .no]) := by
        cases o5 <;> cases o6 <;>
        simp only [vo', turnC, okT, Tg.ix, List.all_cons, List.all_nil, List.getElem?_cons_succ, List.getElem?_cons_zero, Bool.and_true, if_true, blkR, wipeR, toB, List.map_cons, List.map_nil, tgt, List.set_cons_succ, List.set_cons_zero, sB, s2, sCallM, conM, aC, aN, sK, sV, List.length_cons, List.length_nil, Nat.zero_add, Nat.reduceAdd, e1', setM, g, restore, Option.map_some]
      rw [List.map_cons]
      unfold cLoop
      rw [t]
      simp only [e2, List.map_cons]
    · refine ⟨R, zs, sl.cons x, ?_, hp⟩
      have g : gEq (.int d) (.int 0) = some (.bl false) := by rw [gEq_int, decide_eq_false z]
      have t : turnC (.nm 7) (sB (s2 gEq (sCallM 2 m_law_draw 0 (aC (sK (.int 4)) aN)) (sK (.int 0)))) (sV 7) (.str x) [.bor xs, .val a1, .val a2, .own fs, .val a4, vo' o5, vo' o6, .no] = some (none, [.bor ys, .val a1, .val a2, .own fs, .val a4, vo' o5, vo' o6, .no]) := by
        cases o5 <;> cases o6 <;>
        simp only [vo', turnC, okT, Tg.ix, List.all_cons, List.all_nil, List.getElem?_cons_succ, List.getElem?_cons_zero, Bool.and_true, if_true, blkR, wipeR, toB, List.map_cons, List.map_nil, tgt, List.set_cons_succ, List.set_cons_zero, sB, s2, sCallM, conM, aC, aN, sK, sV, List.length_cons, List.length_nil, Nat.zero_add, Nat.reduceAdd, e1', setM, g, restore, Option.map_some]
      rw [List.map_cons]
      unfold cLoop
      rw [t]
      simp only [e2]
def tupD (s : Stp) : D := .tup [.str s.nm, .int s.p, .int s.l, .tup (s.rd.map .str)]
/-- step j of a drawn net -/
structure Drn (L : List Str) (Q : List Int) (j : Nat) (s : Stp) : Prop where
  nm : L[j]? = some s.nm
  p : Q[j]? = some s.p
  l0 : 0 ≤ s.l
  l1 : s.l ≤ 100
  nd : s.rd.Nodup
  rd : ∀ x ∈ s.rd, x ∈ L
  pr : ∀ i, i + 1 = j → ∀ x, L[i]? = some x → x ∈ s.rd
def netB : SS := (kS (kSet 5 (sComp (iSeq (sV 2)) (.nm 7) (sB (s2 gEq (sCallM 2 m_law_draw 0 (aC (sK (.int 4)) aN)) (sK (.int 0)))) (sV 7)))
    (kS (kIf (bAnd (sB (s2 gGt (sV 4) (sK (.int 0)))) (sB (s2 gNotIn (s2 gIx (sV 2) (s2 gSub (sV 4) (sK (.int 1)))) (sV 5))))
    (kSet 5 (s2 gAdd (sV 5) (sL gLst (aC (s2 gIx (sV 2) (s2 gSub (sV 4) (sK (.int 1)))) aN)))) kN)
    (kS (kSet 6 (sCallM 2 m_law_pick 0 (aC (sL gLst (aC (sK (.int 0)) (aC (sK (.int 0)) (aC (sK (.int 0)) (aC (sK (.int 1)) (aC (sK (.int 2)) (aC (sCallM 2 m_law_draw 0 (aC (sK (.int 13)) aN)) (aC (sK (.int 100)) aN)))))))) aN)))
    (kApp 3 (sL gTup (aC (s2 gIx (sV 2) (sV 4)) (aC (s2 gIx (sV 1) (sV 4)) (aC (sV 6) (aC (sL gTuple (aC (sV 5) aN)) aN)))))))))
theorem gLst7 {a b c d e f g : D} : gLst [a, b, c, d, e, f, g] = some (.lst [a, b, c, d, e, f, g]) := by
  unfold gLst
  rw [if_pos (by show 7 ≤ 1000000; decide)]
theorem kApp_of {i : Nat} {e : SE} {ρ ρ1 ρ2 : Rho} {ys xs : List D} {d : D} (h0 : conM ρ i = some ys) (h : e ρ = some (d, ρ1)) (h1 : conM ρ1 i = some xs) (hl : xs.length < LN) (h2 : setM ρ1 i (xs ++ [d]) = ρ2) : kApp i e ρ = some (.nx, ρ2) := by
  unfold kApp
  rw [h0, h]
  simp only [h1, hl, if_true, h2]
theorem net_body {L : List Str} {Q : List Int} (nd : L.Nodup) (ll : L.length ≤ 4) (lq : Q.length = L.length) {k i : Nat} {xs fs : List D} {x4 : Sl} {o5 o6 : Option D} (h : PuB k xs) (hk : k ≤ 400000) (hi : i < L.length) (hf : fs.length < 1000) :
    ∃ s ys o5' o6', Drn L Q i s ∧ netB [.bor xs, .val (.lst (Q.map .int)), .val (.lst (L.map .str)), .own fs, .val (.int (i : Nat)), vo' o5, vo' o6, .no] =
      some (.nx, [.bor ys, .val (.lst (Q.map .int)), .val (.lst (L.map .str)), .own (fs ++ [tupD s]), .val (.int (i : Nat)), vo' o5', vo' o6', .no]) ∧ PuB (k + 10) ys := by
  obtain ⟨R, ys, sl, e1, h1⟩ := pick_names L k xs fs (.lst (Q.map .int)) (.lst (L.map .str)) (.int (i : Nat)) o5 o6 h (by omega)
  have lR := sl.length_le
  have fin : (R.map D.str).length ≤ LN := by
    rw [List.length_map]
    exact Nat.le_trans (Nat.le_trans lR ll) (by decide)
  -- the reads
  obtain ⟨R', r1, r2, r3, r4⟩ : ∃ R' : List Str, R'.Nodup ∧ (∀ x ∈ R', x ∈ L) ∧ (∀ j, j + 1 = i → ∀ x, L[j]? = some x → x ∈ R') ∧
      kIf (bAnd (sB (s2 gGt (sV 4) (sK (.int 0)))) (sB (s2 gNotIn (s2 gIx (sV 2) (s2 gSub (sV 4) (sK (.int 1)))) (sV 5)))) (kSet 5 (s2 gAdd (sV 5) (sL gLst (aC (s2 gIx (sV 2) (s2 gSub (sV 4) (sK (.int 1)))) aN)))) kN
        [.bor ys, .val (.lst (Q.map .int)), .val (.lst (L.map .str)), .own fs, .val (.int (i : Nat)), .val (.lst (R.map .str)), vo' o6, .no] = some (.nx, [.bor ys, .val (.lst (Q.map .int)), .val (.lst (L.map .str)), .own fs, .val (.int (i : Nat)), .val (.lst (R'.map .str)), vo' o6, .no]) := by
    have ndR := nd.sublist sl
    cases i with
    | zero =>
      refine ⟨R, ndR, fun x hx => sl.subset hx, fun j hj => by omega, ?_⟩
      have g : gGt (.int ((0 : Nat) : Int)) (.int 0) = some (.bl false) := rfl
      refine kIf_f (ρ1 := [.bor ys, .val (.lst (Q.map .int)), .val (.lst (L.map .str)), .own fs, .val (.int ((0 : Nat) : Int)), .val (.lst (R.map .str)), vo' o6, .no]) ?_ rfl
      unfold bAnd
      rw [sB_of (s2_of rfl rfl g)]
    | succ j =>
      have jl : j < L.length := by omega
      have s1 : ((j + 1 : Nat) : Int) - 1 = (j : Nat) := by omega
      have e2 : L[j]? = some L[j] := by simp [jl]
      have g : gGt (.int ((j + 1 : Nat) : Int)) (.int 0) = some (.bl true) := by rw [gGt_int, decide_eq_true (by omega)]
      have gi : gIx (.lst (L.map .str)) (.int (((j + 1 : Nat) : Int) - 1)) = some (.str L[j]) := by
        rw [s1, gIx_nat]
        exact map_get e2
      have gn := gNotIn_lst L[j] R
      by_cases z : L[j] ∈ R
      · refine ⟨R, ndR, fun x hx => sl.subset hx, fun i' hi' x hx => ?_, ?_⟩
        · have : i' = j := by omega
          subst this
          rw [e2] at hx
          rw [← Option.some.inj hx]
          exact z
        · rw [decide_eq_true z] at gn
          refine kIf_f (ρ1 := [.bor ys, .val (.lst (Q.map .int)), .val (.lst (L.map .str)), .own fs, .val (.int ((j + 1 : Nat) : Int)), .val (.lst (R.map .str)), vo' o6, .no]) ?_ rfl
          unfold bAnd
          rw [sB_of (s2_of rfl rfl g)]
          exact sB_of (s2_of (s2_of rfl (s2_of rfl rfl gSub_eq) gi) rfl gn)
      · refine ⟨R ++ [L[j]], ?_, fun x hx => ?_, fun i' hi' x hx => ?_, ?_⟩
        · rw [List.nodup_append]
          refine ⟨ndR, by simp, fun a ha b hb => ?_⟩
          rw [List.mem_singleton] at hb
          intro q
          exact z (by rw [← hb, ← q]; exact ha)
        · rcases List.mem_append.mp hx with q | q
          · exact sl.subset q
          · rw [List.mem_singleton] at q
            rw [q]
            exact List.getElem_mem jl
        · have : i' = j := by omega
          subst this
          rw [e2] at hx
          rw [← Option.some.inj hx]
          simp
        · rw [decide_eq_false z] at gn
          have ga : gAdd (.lst (R.map .str)) (.lst [.str L[j]]) = some (.lst ((R ++ [L[j]]).map .str)) := by
            show (if _ then _ else _) = _
            rw [if_pos (by rw [List.length_map]; exact Nat.le_trans (Nat.add_le_add_right (Nat.le_trans lR ll) 1) (by decide)), List.map_append]
            rfl
          have g1 : gLst [D.str L[j]] = some (.lst [.str L[j]]) := by
            unfold gLst
            rw [if_pos (by show 1 ≤ 1000000; decide)]
          refine kIf_t (ρ1 := [.bor ys, .val (.lst (Q.map .int)), .val (.lst (L.map .str)), .own fs, .val (.int ((j + 1 : Nat) : Int)), .val (.lst (R.map .str)), vo' o6, .no]) ?_ (kSet_to' (s2_of rfl (sL_of (aC_of (s2_of rfl (s2_of rfl rfl gSub_eq) gi) rfl) g1) ga) rfl)
          unfold bAnd
          rw [sB_of (s2_of rfl rfl g)]
          exact sB_of (s2_of (s2_of rfl (s2_of rfl rfl gSub_eq) gi) rfl gn)
  -- the delay
  obtain ⟨d, zs, e3, l3, u3, h3⟩ := law_draw_eq (m := 13) h1 (by omega) (by decide) (sm_of (k := 3000) (by decide) (by decide +kernel))
  obtain ⟨n, x, us, e4, e5, h4⟩ := law_pick_eq (its := [.int 0, .int 0, .int 0, .int 1, .int 2, .int d, .int 100]) h3 (by omega) (by show 0 < 7; decide) (by show 7 < 1000000; decide)
  obtain ⟨dl, rfl, d0, d1⟩ : ∃ dl : Int, x = .int dl ∧ 0 ≤ dl ∧ dl ≤ 100 := by
    match n, e5 with
    | 0, q => exact ⟨0, (Option.some.inj q).symm, by decide, by decide⟩
    | 1, q => exact ⟨0, (Option.some.inj q).symm, by decide, by decide⟩
    | 2, q => exact ⟨0, (Option.some.inj q).symm, by decide, by decide⟩
    | 3, q => exact ⟨1, (Option.some.inj q).symm, by decide, by decide⟩
    | 4, q => exact ⟨2, (Option.some.inj q).symm, by decide, by decide⟩
    | 5, q => exact ⟨d, (Option.some.inj q).symm, l3, by omega⟩
    | 6, q => exact ⟨100, (Option.some.inj q).symm, by decide, by decide⟩
    | n + 7, q => cases q
  have il : i < Q.length := by omega
  have en : L[i]? = some L[i] := by simp [hi]
  have ep : Q[i]? = some Q[i] := by simp [il]
  have gn : gIx (.lst (L.map .str)) (.int (i : Nat)) = some (.str L[i]) := by rw [gIx_nat]; exact map_get en
  have gp : gIx (.lst (Q.map .int)) (.int (i : Nat)) = some (.int Q[i]) := by rw [gIx_nat]; exact map_get ep
  have gt4 : VS.gTup [.str L[i], .int Q[i], .int dl, .tup (R'.map .str)] = some (.tup [.str L[i], .int Q[i], .int dl, .tup (R'.map .str)]) := by
    unfold VS.gTup
    rw [if_pos (by show 4 ≤ 1000000; decide)]
  refine ⟨⟨L[i], Q[i], dl, R'⟩, us, some (.lst (R'.map .str)), some (.int dl), ⟨en, ep, d0, d1, r1, r2, r3⟩, ?_, h4.mono (by omega)⟩
  unfold netB
  refine kS_nx (kSet_to' (sComp_of rfl e1 fin) rfl) (kS_nx r4 (kS_nx (ρ1 := [.bor us, .val (.lst (Q.map .int)), .val (.lst (L.map .str)), .own fs, .val (.int (i : Nat)), .val (.lst (R'.map .str)), .val (.int dl), .no])
    (kSet_to' (callM rfl (aC_of (sL_of (aC_of rfl (aC_of rfl (aC_of rfl (aC_of rfl (aC_of rfl (aC_of (callM rfl (aC_of rfl rfl) rfl rfl e3 rfl) (aC_of rfl rfl))))))) gLst7) rfl) rfl rfl e4 rfl) rfl)
    (kApp_of rfl (sL_of (aC_of (s2_of rfl rfl gn) (aC_of (s2_of rfl rfl gp) (aC_of rfl (aC_of (sL_of (aC_of rfl rfl) rfl) rfl)))) gt4) rfl (Nat.lt_trans hf (by decide)) rfl)))
end Toy

set_option Elab.async false
set_option linter.all false
set_option maxRecDepth 100000
set_option maxHeartbeats 8000000
namespace Toy
open PySem PySem.Spec PyProof.Rows L2 VS
theorem net_loop {L : List Str} {Q : List Int} (nd : L.Nodup) (ll : L.length ≤ 4) (lq : Q.length = L.length) : ∀ (m i k : Nat) (ss : List Stp) (xs : List D) (x4 : Sl) (o5 o6 : Option D), i + m = L.length → ss.length = i → (∀ (j : Nat) s, ss[j]? = some s → Drn L Q j s) → PuB k xs → k + 10 * m ≤ 300000 →
    ∃ (ss' : List Stp) (ys : List D) (y4 : Sl) (p5 p6 : Option D), kLoop (.nm 4) netB ((List.range' i m).map fun j => .int (j : Nat)) [.bor xs, .val (.lst (Q.map .int)), .val (.lst (L.map .str)), .own (ss.map tupD), x4, vo' o5, vo' o6, .no] =
      some (.nx, [.bor ys, .val (.lst (Q.map .int)), .val (.lst (L.map .str)), .own (ss'.map tupD), y4, vo' p5, vo' p6, .no]) ∧ ss'.length = L.length ∧ (∀ (j : Nat) s, ss'[j]? = some s → Drn L Q j s) ∧ PuB (k + 10 * m) ys
  | 0, i, k, ss, xs, x4, o5, o6, e, l, d, h, _ => ⟨ss, xs, x4, o5, o6, rfl, by omega, d, h⟩
  | m + 1, i, k, ss, xs, x4, o5, o6, e, l, d, h, hk => by
    obtain ⟨s, ys, p5, p6, ds, e1, h1⟩ := net_body (x4 := x4) (o5 := o5) (o6 := o6) (fs := ss.map tupD) nd ll lq h (by omega) (show i < L.length by omega) (by rw [List.length_map]; omega)
    have e1' : netB [.bor xs, .val (.lst (Q.map .int)), .val (.lst (L.map .str)), .own (ss.map tupD), .val (.int (i : Nat)), vo' o5, vo' o6, .no] = some (.nx, [.bor ys, .val (.lst (Q.map .int)), .val (.lst (L.map .str)), .own ((ss ++ [s]).map tupD), .val (.int (i : Nat)), vo' p5, vo' p6, .no]) := by
      rw [e1, List.map_append]
      rfl
    obtain ⟨ss', zs, y4, q5, q6, e2, l2, d2, h2⟩ := net_loop nd ll lq m (i + 1) (k + 10) (ss ++ [s]) ys (.val (.int (i : Nat))) p5 p6 (by omega) (by simp; omega) (fun j t ht => by
      by_cases z : j < ss.length
      · rw [List.getElem?_append_left z] at ht
        exact d j t ht
      · rw [List.getElem?_append_right (by omega)] at ht
        have : j - ss.length = 0 := by
          rcases Nat.eq_zero_or_pos (j - ss.length) with q | q
          · exact q
          · rw [List.getElem?_eq_none (by simp; omega)] at ht; cases ht
        rw [this] at ht
        have q : s = t := by simpa using ht
        subst q
        have : j = i := by omega
        rw [this]
        exact ds) h1 (by omega)
    refine ⟨ss', zs, y4, q5, q6, ?_, l2, d2, h2.mono (by omega)⟩
    rw [List.range'_succ, List.map_cons]
    exact kLoop_nx rfl e1' e2
/-- a drawn net -/
structure DrNet (ns : Nt) : Prop where
  ok : NtOk ns
  st : Steps ns
  ln : ns.length ≤ 4
  lc : lcmL (turns ns) ≤ 100000
  p : ∀ s ∈ ns, s.p ≤ 60
  l : ∀ s ∈ ns, 0 ≤ s.l ∧ s.l ≤ 100
  pr : ∀ j s t, ns[j]? = some s → ns[j + 1]? = some t → s.nm ∈ t.rd
theorem dr_net {L : List Str} {Q : List Int} {ns : Nt} (nd : L.Nodup) (ok : ∀ x ∈ L, NmOk x) (pk : perOk Q = true) (lq : Q.length = L.length) (l : ns.length = L.length) (d : ∀ (j : Nat) s, ns[j]? = some s → Drn L Q j s) : DrNet ns := by
  unfold perOk at pk
  simp only [Bool.and_eq_true, decide_eq_true_eq, List.all_eq_true] at pk
  obtain ⟨⟨⟨k1, k2⟩, k3⟩, k4⟩ := pk
  have nm : ns.map (·.nm) = L := by
    apply List.ext_getElem?
    intro j
    rw [List.getElem?_map]
    cases e : ns[j]? with
    | none =>
      have : ns.length ≤ j := List.getElem?_eq_none_iff.mp e
      rw [List.getElem?_eq_none (by omega)]
      rfl
    | some s => rw [(d j s e).nm]; rfl
  have tn : turns ns = Q := by
    unfold turns
    apply List.ext_getElem?
    intro j
    rw [List.getElem?_map]
    cases e : ns[j]? with
    | none =>
      have : ns.length ≤ j := List.getElem?_eq_none_iff.mp e
      rw [List.getElem?_eq_none (by omega)]
      rfl
    | some s => rw [(d j s e).p]; rfl
  have get : ∀ s ∈ ns, ∃ j, Drn L Q j s := fun s hs => by
    obtain ⟨j, hj, e⟩ := List.mem_iff_getElem.mp hs
    exact ⟨j, d j s (by rw [← e]; simp [hj])⟩
  have pq : ∀ s ∈ ns, 0 < s.p ∧ s.p ≤ 60 := fun s hs => by
    obtain ⟨j, q⟩ := get s hs
    exact k3 s.p (List.mem_of_getElem? q.p)
  have lq2 : ∀ s ∈ ns, 0 ≤ s.l ∧ s.l ≤ 100 := fun s hs => by
    obtain ⟨j, q⟩ := get s hs
    exact ⟨q.l0, q.l1⟩
  refine ⟨⟨fun z => by rw [z] at l; simp at l; omega, fun s hs => ?_, by rw [nm]; exact nd, fun s hs x hx => ?_, by omega⟩, ⟨fun s hs => ?_, by omega⟩, by omega, by rw [tn]; exact k4, fun s hs => (pq s hs).2, lq2, fun j s t e1 e2 => ?_⟩
  · obtain ⟨j, q⟩ := get s hs
    have rl : s.rd.length ≤ L.length := List.Nodup.length_le_of_subset q.nd q.rd
    exact ⟨ok _ (List.mem_of_getElem? q.nm), (pq s hs).1, q.l0, fun x hx => ok x (q.rd x hx), q.nd, by omega⟩
  · obtain ⟨j, q⟩ := get s hs
    rw [nm]
    exact q.rd x hx
  · exact ⟨(pq s hs).1, sm60 (by have := (pq s hs).1; omega) (by have := (pq s hs).2; omega), sm60 (by have := (lq2 s hs).1; omega) (by have := (lq2 s hs).2; omega)⟩
  · exact (d (j + 1) t e2).pr j rfl s.nm (d j s e1).nm
theorem iR_len {a : SA} {ρ ρ1 : Rho} {n : Nat} (h : a ρ = some ([.int (n : Nat)], ρ1)) (hn : n ≤ 1000000) : iR a ρ = some ((List.range' 0 n).map fun j => .int (j : Nat), ρ1) := by
  unfold iR
  rw [h]
  have sm : small62 ((n : Nat) : Int) := ⟨by omega, by omega⟩
  simp only [sm, if_true, Int.toNat_natCast, rng]
  rw [← List.range_eq_range']
  congr 2
  exact List.map_congr_left fun i _ => by rw [Int.zero_add]
theorem kParR_of {i j : Nat} {e : SE} {a : SA} {ρ ρ1 ρ2 ρ3 : Rho} {d : D} {xs : List D} (h : e ρ = some (d, ρ1)) (h2 : a ρ1 = some (xs, ρ2)) (hl : xs.length ≤ LN) (h3 : (ρ2.set i (.val d)).set j (.own xs) = ρ3) : kParR i j e a ρ = some (.nx, ρ3) := by
  unfold kParR
  rw [h]
  simp only [h2, hl, if_true, h3]
theorem law_net_eq {k : Nat} {xs : List D} (h : PuB k xs) (hk : k ≤ 200000) : ∃ ns ys, m_law_net [.bor xs] = some (.tup (ns.map tupD), ys) ∧ DrNet ns ∧ PuB (k + 100) ys := by
  obtain ⟨Q, ys, e1, pk, h1⟩ := law_periods_eq h (by omega)
  have q4 : Q.length ≤ 4 := by
    unfold perOk at pk
    simp only [Bool.and_eq_true, decide_eq_true_eq] at pk
    exact pk.1.1.2
  obtain ⟨L, zs, e2, ln, nd, ok, h2⟩ := law_names_eq (n := Q.length) h1 (by omega) q4
  obtain ⟨ns, us, y4, p5, p6, e3, l3, d3, h3⟩ := net_loop nd (by omega) ln.symm Q.length 0 (k + 2 + 2) [] zs .no none none (by omega) rfl (fun j s q => by simp at q) h2 (by omega)
  refine ⟨ns, us, ?_, dr_net nd ok pk ln.symm l3 d3, h3.mono (by omega)⟩
  have e1' : m_law_periods (.bor xs :: [].map .val) = some (.lst (Q.map .int), ys) := e1
  have gl : gLen [.lst (Q.map .int)] = some (.int (Q.length : Nat)) := by rw [gLen_lst, List.length_map]
  refine mir_rt (ρ0 := [.bor xs, .no, .no, .no, .no, .no, .no, .no]) (ρ := [.bor us, .val (.lst (Q.map .int)), .val (.lst (L.map .str)), .val (.lst (ns.map tupD)), y4, vo' p5, vo' p6, .no]) rfl ?_ rfl
  refine kS_nx (ρ1 := [.bor ys, .val (.lst (Q.map .int)), .no, .no, .no, .no, .no, .no]) (kSet_to' (callM rfl rfl rfl rfl e1' rfl) rfl) ?_
  refine kS_nx (ρ1 := [.bor zs, .val (.lst (Q.map .int)), .val (.lst (L.map .str)), .own [], .no, .no, .no, .no]) (kParR_of (callM rfl (aC_of (sL_of (aC_of rfl rfl) gl) rfl) rfl rfl e2 rfl) rfl (by decide) rfl) ?_
  refine kS_nx (kFor_of (iR_len (aC_of (sL_of (aC_of rfl rfl) gl) rfl) (by omega)) e3) ?_
  exact kRet_of (sL_of (aC_of rfl rfl) rfl)
theorem sMake_of' {t nf n : Nat} {m : Mir} {a : SA} {ρ ρ1 : Rho} {xs out : List D} (h : a ρ = some (xs, ρ1)) (hn : xs.length + 1 = n) (hm : m (.slf t [] :: xs.map .val) = some (.non, out)) (hl : out.length = nf) : sMake t nf n m a ρ = some (.ins t out, ρ1) := by
  unfold sMake
  rw [h]
  simp only [hn, if_true, hm, hl]
theorem law_made_eq {ns : Nt} (h : NtOk ns) : m_law_made [.val (.tup (ns.map tupD))] = some (netD ns, []) := by
  have c := cLoop_map (t := .tp [1, 2, 3, 4]) (tt := bYes) (e := sMake 0 4 5 m_Step_init (aC (sV 1) (aC (sV 2) (aC (sV 3) (aC (sL gList (aC (sV 4) aN)) aN))))) (ρ := [.val (.tup (ns.map tupD)), .no, .no, .no, .no]) (g := tupD) (f := stpD) (ds := ns) fun s hs => by
    have q := step_init_eq (h.st s hs)
    have g1 : gList [.tup (s.rd.map .str)] = some (.lst (s.rd.map .str)) := rfl
    simp only [turnC, okT, Tg.ix, List.all_cons, List.all_nil, List.getElem?_cons_succ, List.getElem?_cons_zero, Bool.and_true, if_true, blkR, wipeR, toB, List.map_cons, List.map_nil, tupD, tgt, sets, List.set_cons_succ, List.set_cons_zero, bYes, sMake, aC, aN, sL, sV, g1, List.length_cons, List.length_nil, Nat.zero_add, Nat.reduceAdd, q, restore, Option.map_some]
    rfl
  have l : (ns.map stpD).length ≤ LN := by
    rw [List.length_map]
    exact Nat.le_trans h.ln (by decide)
  have q := net_init_eq h
  exact mir_rt (ρ0 := [_, _, _, _, _]) rfl (kRet_of (sMake_of' (aC_of (sComp_of rfl c l) rfl) rfl q rfl)) rfl
theorem law_named_eq {ns : Nt} {P : List Nat} (h : ∀ i ∈ P, i < ns.length) (hl : P.length ≤ 4000) : m_law_named [.val (.tup (ns.map tupD)), .val (.lst (P.map fun i => .int (i : Nat)))] = some (.lst (pathD ns P), []) := by
  have c := cLoop_map (t := .nm 2) (tt := bYes) (e := s2 gIx (s2 gIx (sV 0) (sV 2)) (sK (.int 0))) (ρ := [.val (.tup (ns.map tupD)), .val (.lst (P.map fun i => .int (i : Nat))), .no]) (g := fun i : Nat => D.int (i : Nat)) (f := fun i => D.str (nmA ns i)) (ds := P) fun i hi => by
    have e : ns[i]? = some (ns[i]'(h i hi)) := by simp [h i hi]
    have g1 : gIx (.tup (ns.map tupD)) (.int (i : Nat)) = some (tupD (ns[i]'(h i hi))) := by
      rw [gIx_tup, atI_nat]
      exact map_get e
    have g2 : gIx (tupD (ns[i]'(h i hi))) (.int 0) = some (.str (nmA ns i)) := by
      have : nmA ns i = (ns[i]'(h i hi)).nm := by simp [nmA, e]
      rw [this]
      rfl
    simp only [turnC, okT, Tg.ix, List.all_cons, List.all_nil, List.getElem?_cons_succ, List.getElem?_cons_zero, Bool.and_true, if_true, blkR, wipeR, toB, List.map_cons, List.map_nil, tgt, List.set_cons_succ, List.set_cons_zero, bYes, s2, sV, sK, g1, g2, restore, Option.map_some]
  have l : (pathD ns P).length ≤ LN := by
    unfold pathD
    rw [List.length_map]
    exact Nat.le_trans hl (by decide)
  exact mir_rt (ρ0 := [_, _, _]) rfl (kRet_of (sComp_of rfl c l)) rfl
end Toy

set_option Elab.async false
set_option linter.all false
set_option maxRecDepth 100000
set_option maxHeartbeats 8000000
namespace Toy
open PySem PySem.Spec PyProof.Rows L2 VS
/-! the drawn path -/
structure Pth (ns : Nt) (P : List Nat) : Prop where
  pi : ∀ i ∈ P, i < ns.length
  ne : P ≠ []
  st : ∀ j, j + 1 < P.length → ∃ s t : Stp, ns[atP P j]? = some s ∧ ns[atP P (j + 1)]? = some t ∧ s.nm ∈ t.rd
def intsD (P : List Nat) : List D := P.map fun i => .int (i : Nat)
theorem gNe_nil {l : List Nat} (h : l.length ≤ 4) : gNe (.lst (intsD l)) (.lst []) = some (.bl (!l.isEmpty)) := by
  match l, h with
  | [], _ => rfl
  | [a], _ => rfl
  | [a, b], _ => rfl
  | [a, b, c], _ => rfl
  | [a, b, c, d], _ => rfl
  | a :: b :: c :: d :: e :: r, h => simp at h
theorem fm_ints (p : Nat → Prop) [DecidablePred p] : ∀ (l : List Nat), (l.filterMap fun j => if p j then some (D.int (j : Nat)) else none) = intsD (l.filter fun j => decide (p j))
  | [] => rfl
  | a :: r => by
    rw [List.filterMap_cons, List.filter_cons]
    by_cases h : p a
    · simp only [h, if_true, decide_true, fm_ints p r]; rfl
    · simp only [h, if_false, decide_false, fm_ints p r, Bool.false_eq_true]
def pathB : SS := (kS (kSet 4 (sComp (iR (aC (sL gLen (aC (sV 1) aN)) aN)) (.nm 5) (sB (s2 gIn (s2 gIx (s2 gIx (sV 1) (sIxM 2 (s1 gNeg (sK (.int 1))))) (sK (.int 0))) (s2 gIx (s2 gIx (sV 1) (sV 5)) (sK (.int 3))))) (sV 5)))
    (kIf (sB (s2 gNe (sV 4) (sL gLst aN)))
    (kApp 2 (sCallM 2 m_law_pick 0 (aC (sV 4) aN))) kN))
theorem sIxM_of {i : Nat} {b : SE} {ρ ρ1 : Rho} {ys xs : List D} {k : Int} {d : D} (h0 : conM ρ i = some ys) (h : b ρ = some (.int k, ρ1)) (h1 : conM ρ1 i = some xs) (h2 : L2.atI xs k = some d) : sIxM i b ρ = some (d, ρ1) := by
  unfold sIxM
  rw [h0, h]
  simp only [h1, h2]
theorem path_body {ns : Nt} (N : DrNet ns) {P : List Nat} (h : Pth ns P) (hl : P.length ≤ 100) {k : Nat} {xs : List D} {x3 : D} {o4 : Option D} (hp : PuB k xs) (hk : k ≤ 400000) :
    ∃ P' ys o4', Pth ns P' ∧ P'.length ≤ P.length + 1 ∧ pathB [.bor xs, .val (.tup (ns.map tupD)), .own (intsD P), .val x3, vo' o4, .no] = some (.nx, [.bor ys, .val (.tup (ns.map tupD)), .own (intsD P'), .val x3, vo' o4', .no]) ∧ PuB (k + 1) ys := by
  have pl : 0 < P.length := List.length_pos_iff.mpr h.ne
  obtain ⟨m, hm⟩ : ∃ m, P.length = m + 1 := ⟨P.length - 1, by omega⟩
  have pm : P[m]? = some (atP P m) := by
    have : P[m]? = some P[m] := by simp [show m < P.length by omega]
    simp [atP, this]
  have lt : atP P m < ns.length := h.pi _ (List.mem_of_getElem? pm)
  have es : ns[atP P m]? = some (ns[atP P m]'lt) := by simp [lt]
  have la : L2.atI (intsD P) (-1) = some (.int (atP P m : Nat)) := by
    rw [atI_m1 (k := m) (by unfold intsD; rw [List.length_map]; exact hm)]
    exact map_get pm
  have gl : gLen [.tup (ns.map tupD)] = some (.int (ns.length : Nat)) := by
    show some (D.int ((ns.map tupD).length : Int)) = _
    rw [List.length_map]
  have g0 : gIx (.tup (ns.map tupD)) (.int (atP P m : Nat)) = some (tupD (ns[atP P m]'lt)) := by
    rw [gIx_tup, atI_nat]
    exact map_get es
  have g1 : gIx (tupD (ns[atP P m]'lt)) (.int 0) = some (.str (ns[atP P m]'lt).nm) := rfl
  have c := cLoop_flt (t := .nm 5) (tt := sB (s2 gIn (s2 gIx (s2 gIx (sV 1) (sIxM 2 (s1 gNeg (sK (.int 1))))) (sK (.int 0))) (s2 gIx (s2 gIx (sV 1) (sV 5)) (sK (.int 3))))) (e := sV 5) (ρ := [.bor xs, .val (.tup (ns.map tupD)), .own (intsD P), .val x3, vo' o4, .no])
    (g := fun j : Nat => D.int (j : Nat)) (f := fun j => if (ns[atP P m]'lt).nm ∈ ((ns[j]?).map (·.rd)).getD [] then some (D.int (j : Nat)) else none) (ds := List.range' 0 ns.length) fun j hj => by
      have jl : j < ns.length := by
        have := List.mem_range'_1.mp hj
        omega
      have ej : ns[j]? = some (ns[j]'jl) := by simp [jl]
      have g2 : gIx (.tup (ns.map tupD)) (.int (j : Nat)) = some (tupD (ns[j]'jl)) := by
        rw [gIx_tup, atI_nat]
        exact map_get ej
      have g3 : gIx (tupD (ns[j]'jl)) (.int 3) = some (.tup ((ns[j]'jl).rd.map .str)) := rfl
      have g4 := gIn_tup (ns[atP P m]'lt).nm (ns[j]'jl).rd
      rw [ej]
      have gn : gNeg (.int 1) = some (.int (-1)) := rfl
      by_cases z : (ns[atP P m]'lt).nm ∈ (ns[j]'jl).rd
      · rw [decide_eq_true z] at g4
        simp only [Option.map_some, Option.getD_some, z, if_true]
        cases o4 <;>
        simp only [vo', turnC, okT, Tg.ix, List.all_cons, List.all_nil, List.getElem?_cons_succ, List.getElem?_cons_zero, Bool.and_true, if_true, blkR, wipeR, toB, List.map_cons, List.map_nil, tgt, List.set_cons_succ, List.set_cons_zero, sB, s2, s1, sIxM, conM, sK, sV, gn, la, g0, g1, g2, g3, g4, restore, Option.map_some]
      · rw [decide_eq_false z] at g4
        simp only [Option.map_some, Option.getD_some, z, if_false]
        cases o4 <;>
        simp only [vo', turnC, okT, Tg.ix, List.all_cons, List.all_nil, List.getElem?_cons_succ, List.getElem?_cons_zero, Bool.and_true, if_true, blkR, wipeR, toB, List.map_cons, List.map_nil, tgt, List.set_cons_succ, List.set_cons_zero, sB, s2, s1, sIxM, conM, sK, sV, gn, la, g0, g1, g2, g3, g4, restore, Option.map_some]
  rw [fm_ints] at c
  generalize ea : (List.range' 0 ns.length).filter (fun j => decide ((ns[atP P m]'lt).nm ∈ ((ns[j]?).map (·.rd)).getD [])) = A at c
  have al : A.length ≤ 4 := by
    rw [← ea]
    have := List.length_filter_le (fun j => decide ((ns[atP P m]'lt).nm ∈ ((ns[j]?).map (·.rd)).getD [])) (List.range' 0 ns.length)
    rw [List.length_range'] at this
    have := N.ln
    omega
  have fin : (intsD A).length ≤ LN := by
    unfold intsD
    rw [List.length_map]
    exact Nat.le_trans al (by decide)
  have gn := gNe_nil al
  have i1 := iR_len (a := aC (sL gLen (aC (sV 1) aN)) aN) (ρ := [.bor xs, .val (.tup (ns.map tupD)), .own (intsD P), .val x3, vo' o4, .no]) (aC_of (sL_of (aC_of rfl rfl) gl) rfl) (by have := N.ln; omega)
  unfold pathB
  by_cases z : A = []
  · rw [z] at gn c fin
    refine ⟨P, xs, some (.lst []), h, by omega, ?_, hp.mono (by omega)⟩
    exact kS_nx (kSet_to' (sComp_of i1 c fin) rfl) (kIf_f (sB_of (s2_of rfl rfl gn)) rfl)
  · have ne : A.isEmpty = false := by cases A with | nil => exact absurd rfl z | cons a r => rfl
    rw [ne] at gn
    obtain ⟨n, x, ys, e1, e2, h1⟩ := law_pick_eq (its := intsD A) hp (by omega) (by unfold intsD; rw [List.length_map]; exact List.length_pos_iff.mpr z) (by unfold intsD; rw [List.length_map]; omega)
    obtain ⟨j, hj, rfl⟩ : ∃ j, j ∈ A ∧ x = .int (j : Nat) := by
      have := List.mem_of_getElem? e2
      obtain ⟨l, a, b⟩ := List.mem_map.mp this
      exact ⟨l, a, b.symm⟩
    rw [← ea] at hj
    obtain ⟨j1, j2⟩ := List.mem_filter.mp hj
    have jl : j < ns.length := by
      have := List.mem_range'_1.mp j1
      omega
    have ej : ns[j]? = some (ns[j]'jl) := by simp [jl]
    have inr : (ns[atP P m]'lt).nm ∈ (ns[j]'jl).rd := by
      have := of_decide_eq_true j2
      rw [ej] at this
      exact this
    refine ⟨P ++ [j], ys, some (.lst (intsD A)), ⟨fun i hi => ?_, by simp, fun i hi => ?_⟩, by simp, ?_, h1⟩
    · rcases List.mem_append.mp hi with q | q
      · exact h.pi i q
      · rw [List.mem_singleton] at q; rw [q]; exact jl
    · have at1 : ∀ i, i < P.length → atP (P ++ [j]) i = atP P i := fun i hi => by
        unfold atP
        rw [List.getElem?_append_left hi]
      by_cases q : i + 1 < P.length
      · rw [at1 i (by omega), at1 (i + 1) q]
        exact h.st i q
      · have : i = m := by simp at hi; omega
        subst this
        have a2 : atP (P ++ [j]) (i + 1) = j := by
          unfold atP
          rw [List.getElem?_append_right (by omega), hm, Nat.sub_self]
          rfl
        rw [at1 i (by omega), a2]
        exact ⟨_, _, es, ej, inr⟩
    · have ap : intsD P ++ [D.int (j : Nat)] = intsD (P ++ [j]) := by unfold intsD; rw [List.map_append]; rfl
      have lp : (intsD P).length < LN := by
        unfold intsD
        rw [List.length_map]
        exact Nat.lt_of_le_of_lt hl (by decide)
      exact kS_nx (kSet_to' (sComp_of i1 c fin) rfl) (kIf_t (sB_of (s2_of rfl rfl gn)) (kApp_of rfl (callM rfl (aC_of rfl rfl) rfl rfl e1 rfl) rfl lp (by rw [ap]; rfl)))
theorem path_loop {ns : Nt} (N : DrNet ns) : ∀ (l : List Nat) (P : List Nat) (k : Nat) (xs : List D) (o3 : Option D) (o4 : Option D), Pth ns P → P.length + l.length ≤ 50 → PuB k xs → k + l.length ≤ 300000 →
    ∃ P' ys o3' o4', Pth ns P' ∧ P'.length ≤ P.length + l.length ∧ kLoop (.nm 3) pathB (l.map fun j => .int (j : Nat)) [.bor xs, .val (.tup (ns.map tupD)), .own (intsD P), vo' o3, vo' o4, .no] = some (.nx, [.bor ys, .val (.tup (ns.map tupD)), .own (intsD P'), vo' o3', vo' o4', .no]) ∧ PuB (k + l.length) ys
  | [], P, k, xs, o3, o4, h, _, hp, _ => ⟨P, xs, o3, o4, h, by simp, rfl, hp⟩
  | j :: l, P, k, xs, o3, o4, h, hl, hp, hk => by
    simp at hl hk
    obtain ⟨P1, ys, p4, h1, l1, e1, hp1⟩ := path_body (x3 := .int (j : Nat)) (o4 := o4) N h (by omega) hp (by omega)
    obtain ⟨P2, zs, q3, q4, h2, l2, e2, hp2⟩ := path_loop N l P1 (k + 1) ys (some (.int (j : Nat))) p4 h1 (by omega) hp1 (by omega)
    exact ⟨P2, zs, q3, q4, h2, by simp; omega, kLoop_nx rfl e1 e2, hp2.mono (by simp; omega)⟩
theorem kOwn_of {i : Nat} {a : SA} {ρ ρ1 ρ2 : Rho} {xs : List D} (h : a ρ = some (xs, ρ1)) (hl : xs.length ≤ LN) (h2 : ρ1.set i (.own xs) = ρ2) : kOwn i a ρ = some (.nx, ρ2) := by
  unfold kOwn
  rw [h]
  simp only [hl, if_true, h2]
theorem law_path_eq {ns : Nt} (N : DrNet ns) {k : Nat} {xs : List D} (h : PuB k xs) (hk : k ≤ 200000) : ∃ P ys, m_law_path [.bor xs, .val (.tup (ns.map tupD))] = some (.lst (intsD P), ys) ∧ Pth ns P ∧ P.length ≤ 5 ∧ PuB (k + 10) ys := by
  have np : 0 < ns.length := List.length_pos_iff.mpr N.ok.ne
  have n4 := N.ln
  have gl : gLen [.tup (ns.map tupD)] = some (.int (ns.length : Nat)) := by
    show some (D.int ((ns.map tupD).length : Int)) = _
    rw [List.length_map]
  obtain ⟨d, ys, e1, l1, u1, h1⟩ := law_draw_eq (m := ns.length) h (by omega) (by omega) ((sm60 (by omega) (by omega)).mono (by decide))
  obtain ⟨p, rfl⟩ := Int.eq_ofNat_of_zero_le l1
  obtain ⟨n, x, zs, e2, e3, h2⟩ := law_pick_eq (its := [.int 0, .int 1, .int 1, .int 2, .int 2, .int 3, .int 4]) h1 (by omega) (by show 0 < 7; decide) (by show 7 < 1000000; decide)
  obtain ⟨t, rfl, t4⟩ : ∃ t : Nat, x = .int (t : Nat) ∧ t ≤ 4 := by
    match n, e3 with
    | 0, q => exact ⟨0, (Option.some.inj q).symm, by decide⟩
    | 1, q => exact ⟨1, (Option.some.inj q).symm, by decide⟩
    | 2, q => exact ⟨1, (Option.some.inj q).symm, by decide⟩
    | 3, q => exact ⟨2, (Option.some.inj q).symm, by decide⟩
    | 4, q => exact ⟨2, (Option.some.inj q).symm, by decide⟩
    | 5, q => exact ⟨3, (Option.some.inj q).symm, by decide⟩
    | 6, q => exact ⟨4, (Option.some.inj q).symm, by decide⟩
    | n + 7, q => cases q
  have P0 : Pth ns [p] := ⟨fun i hi => by rw [List.mem_singleton] at hi; omega, by simp, fun j hj => by simp at hj⟩
  obtain ⟨P, us, o3, o4, hP, lP, e4, h3⟩ := path_loop N (List.range' 0 t) [p] (k + 1 + 1) zs none none P0 (by simp; omega) h2 (by simp; omega)
  rw [List.length_range'] at lP h3
  refine ⟨P, us, ?_, hP, by simp at lP; omega, h3.mono (by omega)⟩
  refine mir_rt (ρ0 := [.bor xs, .val (.tup (ns.map tupD)), .no, .no, .no, .no]) (ρ := [.bor us, .val (.tup (ns.map tupD)), .val (.lst (intsD P)), vo' o3, vo' o4, .no]) rfl ?_ rfl
  refine kS_nx (ρ1 := [.bor ys, .val (.tup (ns.map tupD)), .own (intsD [p]), .no, .no, .no]) (kOwn_of (aC_of (callM rfl (aC_of (sL_of (aC_of rfl rfl) gl) rfl) rfl rfl e1 rfl) rfl) (by show 1 ≤ 1000000; decide) rfl) ?_
  refine kS_nx (kFor_of (iR_len (aC_of (callM rfl (aC_of (sL_of (aC_of rfl (aC_of rfl (aC_of rfl (aC_of rfl (aC_of rfl (aC_of rfl (aC_of rfl rfl))))))) gLst7) rfl) rfl rfl e2 rfl) rfl) (by omega)) e4) ?_
  exact kRet_of rfl
end Toy

set_option Elab.async false
set_option linter.all false
set_option maxRecDepth 100000
set_option maxHeartbeats 8000000
namespace Toy
open PySem PySem.Spec PyProof.Rows L2 VS
/-! the drawn phases -/
def FrOk (p : Int × Int) : Prop := 0 < p.2 ∧ p.2 ≤ 1000 ∧ -1000000 ≤ p.1 ∧ p.1 ≤ 1000000
theorem sm60' {i : Int} (h : -1000000000 ≤ i) (h2 : i ≤ 1000000000) : Sm 60 i := by
  have z : (1000000000 : Nat) < 2 ^ 60 := by decide
  unfold Sm
  omega
def phB : SS := (kS (kSet 8 (s2 gSub (sCallM 2 m_law_draw 0 (aC (s2 gMul (s2 gMul (sK (.int 3)) (sV 5)) (sV 3)) aN)) (sCallM 2 m_law_pick 0 (aC (sL gLst (aC (sK (.int 0)) (aC (sK (.int 0)) (aC (s2 gMul (sV 5) (sV 3)) aN)))) aN))))
    (kS (kApp 2 (sL gTup (aC (sV 8) (aC (sV 3) aN))))
    (kS (kIf (sB (s2 gEq (sCallM 2 m_law_draw 0 (aC (sK (.int 4)) aN)) (sK (.int 0))))
    (kPut 2 (s1 gNeg (sK (.int 1))) (sL gTup (aC (sCallM 2 m_law_draw 0 (aC (s2 gMul (sK (.int 2)) (sV 5)) aN)) (aC (sK (.int 1)) aN)))) kN)
    (kIf (sB (s2 gEq (sCallM 2 m_law_draw 0 (aC (sK (.int 8)) aN)) (sK (.int 0))))
    (kPut 2 (s1 gNeg (sK (.int 1))) (sL gTup (aC (s2 gMul (s2 gIx (sIxM 2 (s1 gNeg (sK (.int 1)))) (sK (.int 0))) (sK (.int 3))) (aC (s2 gMul (s2 gIx (sIxM 2 (s1 gNeg (sK (.int 1)))) (sK (.int 1))) (sK (.int 3))) aN)))) kN))))
theorem kPut_of {i : Nat} {k e : SE} {ρ ρ1 ρ2 ρ3 : Rho} {ys xs : List D} {d : D} {j : Int} {n : Nat} (h : e ρ = some (d, ρ1)) (h0 : conM ρ1 i = some ys) (hk : k ρ1 = some (.int j, ρ2)) (h1 : conM ρ2 i = some xs) (hn : ixN xs.length j = some n) (h2 : setM ρ2 i (xs.set n d) = ρ3) : kPut i k e ρ = some (.nx, ρ3) := by
  unfold kPut
  rw [h]
  simp only [h0, hk, h1, hn, h2]
theorem ixN_m1 {n : Nat} : ixN (n + 1) (-1) = some n := by
  unfold ixN
  rw [if_neg (by decide), if_pos (by omega)]
  congr 1
  omega
theorem set_last (l : List (Int × Int)) (p q : Int × Int) : ((l ++ [p]).map frD).set l.length (frD q) = (l ++ [q]).map frD := by
  rw [List.map_append, List.map_append, List.set_append_right _ _ (by rw [List.length_map]; exact Nat.le_refl _)]
  rw [List.length_map, Nat.sub_self]
  rfl
theorem ph_body {s : Stp} (hp0 : 0 < s.p) (hp1 : s.p ≤ 60) {mn : Int} (m0 : 0 < mn) (m1 : mn ≤ 60) {N : D} {l : List (Int × Int)} (hl : l.length ≤ 100) {k : Nat} {xs : List D} {o8 : Option D} (h : PuB k xs) (hk : k ≤ 400000) :
    ∃ q ys o8', FrOk q ∧ phB [.bor xs, .val N, .own (l.map frD), .val (.int mn), .val (.str s.nm), .val (.int s.p), .val (.int s.l), .val (.tup (s.rd.map .str)), vo' o8] =
      some (.nx, [.bor ys, .val N, .own ((l ++ [q]).map frD), .val (.int mn), .val (.str s.nm), .val (.int s.p), .val (.int s.l), .val (.tup (s.rd.map .str)), vo' o8']) ∧ PuB (k + 10) ys := by
  have p1 : 0 < s.p * mn := Int.mul_pos hp0 m0
  have p2 : s.p * mn ≤ 60 * mn := Int.mul_le_mul_of_nonneg_right hp1 (Int.le_of_lt m0)
  have q1 : 3 * s.p * mn = 3 * (s.p * mn) := Int.mul_assoc _ _ _
  have bd : ∀ {n : Int}, -1000000000 ≤ n → n ≤ 1000000000 → Bd n := fun h h2 => (sm60' h h2).bd (by decide)
  have b3 : Bd 3 := bd (by decide) (by decide)
  have b2 : Bd 2 := bd (by decide) (by decide)
  have bp : Bd s.p := bd (by omega) (by omega)
  have bm : Bd mn := bd (by omega) (by omega)
  have b3p : Bd (3 * s.p) := bd (by omega) (by omega)
  obtain ⟨d, ys, e1, l1, u1, h1⟩ := law_draw_eq (m := 3 * s.p * mn) h (by omega) (by omega) ((sm60' (by omega) (by omega)).mono (by decide))
  obtain ⟨n, x, zs, e2, e3, h2⟩ := law_pick_eq (its := [.int 0, .int 0, .int (s.p * mn)]) h1 (by omega) (by show 0 < 3; decide) (by show 3 < 1000000; decide)
  obtain ⟨t, rfl, t0, t1⟩ : ∃ t : Int, x = .int t ∧ 0 ≤ t ∧ t ≤ 3600 := by
    match n, e3 with
    | 0, q => exact ⟨0, (Option.some.inj q).symm, by decide, by decide⟩
    | 1, q => exact ⟨0, (Option.some.inj q).symm, by decide, by decide⟩
    | 2, q => exact ⟨s.p * mn, (Option.some.inj q).symm, by omega, by omega⟩
    | n + 3, q => cases q
  have g3 : gLst [.int 0, .int 0, .int (s.p * mn)] = some (.lst [.int 0, .int 0, .int (s.p * mn)]) := by
    unfold gLst
    rw [if_pos (by show 3 ≤ 1000000; decide)]
  -- the third statement
  obtain ⟨d4, us, e4, l4, u4, h4⟩ := law_draw_eq (m := 4) h2 (by omega) (by decide) (sm_of (k := 3000) (by decide) (by decide +kernel))
  have lm : ∀ q : Int × Int, ((l ++ [q]).map frD).length = l.length + 1 := fun q => by simp
  have gn : gNeg (.int 1) = some (.int (-1)) := rfl
  have ix : ∀ q : Int × Int, ixN ((l ++ [q]).map frD).length (-1) = some l.length := fun q => by rw [lm]; exact ixN_m1
  obtain ⟨q, vs', f1, r1, h5⟩ : ∃ (q : Int × Int) (vs' : List D), (0 < q.2 ∧ q.2 ≤ 60 ∧ -100000 ≤ q.1 ∧ q.1 ≤ 100000) ∧
      kIf (sB (s2 gEq (sCallM 2 m_law_draw 0 (aC (sK (.int 4)) aN)) (sK (.int 0)))) (kPut 2 (s1 gNeg (sK (.int 1))) (sL gTup (aC (sCallM 2 m_law_draw 0 (aC (s2 gMul (sK (.int 2)) (sV 5)) aN)) (aC (sK (.int 1)) aN)))) kN
        [.bor zs, .val N, .own ((l ++ [(d - t, mn)]).map frD), .val (.int mn), .val (.str s.nm), .val (.int s.p), .val (.int s.l), .val (.tup (s.rd.map .str)), .val (.int (d - t))] =
        some (.nx, [.bor vs', .val N, .own ((l ++ [q]).map frD), .val (.int mn), .val (.str s.nm), .val (.int s.p), .val (.int s.l), .val (.tup (s.rd.map .str)), .val (.int (d - t))]) ∧ PuB (k + 4) vs' := by
    by_cases z : d4 = 0
    · obtain ⟨d5, ws, e5, l5, u5, h5⟩ := law_draw_eq (m := 2 * s.p) h4 (by omega) (by omega) ((sm60' (by omega) (by omega)).mono (by decide))
      have g : gEq (.int d4) (.int 0) = some (.bl true) := by rw [gEq_int, decide_eq_true z]
      refine ⟨(d5, 1), ws, ⟨by show (0 : Int) < 1; decide, by show (1 : Int) ≤ 60; decide, by show -100000 ≤ d5; omega, by show d5 ≤ 100000; omega⟩, ?_, h5⟩
      exact kIf_t (sB_of (s2_of (callM rfl (aC_of rfl rfl) rfl rfl e4 rfl) rfl g)) (kPut_of (sL_of (aC_of (callM rfl (aC_of (s2_of rfl rfl (gMul_eq b2 bp)) rfl) rfl rfl e5 rfl) (aC_of rfl rfl)) gTup2) rfl (s1_of rfl gn) rfl (ix _) (by rw [show (D.tup [.int d5, .int 1]) = frD (d5, 1) from rfl, set_last]; rfl))
    · have g : gEq (.int d4) (.int 0) = some (.bl false) := by rw [gEq_int, decide_eq_false z]
      refine ⟨(d - t, mn), us, ⟨m0, m1, by show -100000 ≤ d - t; omega, by show d - t ≤ 100000; omega⟩, ?_, h4.mono (by omega)⟩
      exact kIf_f (sB_of (s2_of (callM rfl (aC_of rfl rfl) rfl rfl e4 rfl) rfl g)) rfl
  -- the fourth
  obtain ⟨d6, ws, e6, l6, u6, h6⟩ := law_draw_eq (m := 8) h5 (by omega) (by decide) (sm_of (k := 3000) (by decide) (by decide +kernel))
  obtain ⟨q', f2, r2⟩ : ∃ (q' : Int × Int), FrOk q' ∧
      kIf (sB (s2 gEq (sCallM 2 m_law_draw 0 (aC (sK (.int 8)) aN)) (sK (.int 0)))) (kPut 2 (s1 gNeg (sK (.int 1))) (sL gTup (aC (s2 gMul (s2 gIx (sIxM 2 (s1 gNeg (sK (.int 1)))) (sK (.int 0))) (sK (.int 3))) (aC (s2 gMul (s2 gIx (sIxM 2 (s1 gNeg (sK (.int 1)))) (sK (.int 1))) (sK (.int 3))) aN)))) kN
        [.bor vs', .val N, .own ((l ++ [q]).map frD), .val (.int mn), .val (.str s.nm), .val (.int s.p), .val (.int s.l), .val (.tup (s.rd.map .str)), .val (.int (d - t))] =
        some (.nx, [.bor ws, .val N, .own ((l ++ [q']).map frD), .val (.int mn), .val (.str s.nm), .val (.int s.p), .val (.int s.l), .val (.tup (s.rd.map .str)), .val (.int (d - t))]) := by
    obtain ⟨f3, f4, f5, f6⟩ := f1
    by_cases z : d6 = 0
    · have g : gEq (.int d6) (.int 0) = some (.bl true) := by rw [gEq_int, decide_eq_true z]
      have la : L2.atI ((l ++ [q]).map frD) (-1) = some (frD q) := by
        rw [atI_m1 (lm q)]
        exact map_get (by simp)
      have a0 : gIx (frD q) (.int 0) = some (.int q.1) := rfl
      have a1 : gIx (frD q) (.int 1) = some (.int q.2) := rfl
      refine ⟨(q.1 * 3, q.2 * 3), ⟨by show 0 < q.2 * 3; omega, by show q.2 * 3 ≤ 1000; omega, by show -1000000 ≤ q.1 * 3; omega, by show q.1 * 3 ≤ 1000000; omega⟩, ?_⟩
      exact kIf_t (sB_of (s2_of (callM rfl (aC_of rfl rfl) rfl rfl e6 rfl) rfl g)) (kPut_of (sL_of (aC_of (s2_of (s2_of (sIxM_of rfl (s1_of rfl gn) rfl la) rfl a0) rfl (gMul_eq (bd (by omega) (by omega)) b3)) (aC_of (s2_of (s2_of (sIxM_of rfl (s1_of rfl gn) rfl la) rfl a1) rfl (gMul_eq (bd (by omega) (by omega)) b3)) rfl)) gTup2) rfl (s1_of rfl gn) rfl (ix _)
        (by rw [show (D.tup [.int (q.1 * 3), .int (q.2 * 3)]) = frD (q.1 * 3, q.2 * 3) from rfl, set_last]; rfl))
    · have g : gEq (.int d6) (.int 0) = some (.bl false) := by rw [gEq_int, decide_eq_false z]
      refine ⟨q, ⟨f3, by omega, by omega, by omega⟩, ?_⟩
      exact kIf_f (sB_of (s2_of (callM rfl (aC_of rfl rfl) rfl rfl e6 rfl) rfl g)) rfl
  refine ⟨q', ws, some (.int (d - t)), f2, ?_, h6.mono (by omega)⟩
  have ap : l.map frD ++ [D.tup [.int (d - t), .int mn]] = (l ++ [(d - t, mn)]).map frD := by rw [List.map_append]; rfl
  have ll : (l.map frD).length < LN := by
    rw [List.length_map]
    exact Nat.lt_of_le_of_lt hl (by decide)
  unfold phB
  exact kS_nx (ρ1 := [.bor zs, .val N, .own (l.map frD), .val (.int mn), .val (.str s.nm), .val (.int s.p), .val (.int s.l), .val (.tup (s.rd.map .str)), .val (.int (d - t))])
    (kSet_to' (s2_of (callM rfl (aC_of (s2_of (s2_of rfl rfl (gMul_eq b3 bp)) rfl (gMul_eq b3p bm)) rfl) rfl rfl e1 rfl) (callM rfl (aC_of (sL_of (aC_of rfl (aC_of rfl (aC_of (s2_of rfl rfl (gMul_eq bp bm)) rfl))) g3) rfl) rfl rfl e2 rfl) gSub_eq) rfl)
    (kS_nx (kApp_of rfl (sL_of (aC_of rfl (aC_of rfl rfl)) gTup2) rfl ll (by rw [ap]; rfl)) (kS_nx r1 r2))
theorem ph_loop {mn : Int} (m0 : 0 < mn) (m1 : mn ≤ 60) (N : D) : ∀ (ss : List Stp) (l : List (Int × Int)) (k : Nat) (xs : List D) (o4 o5 o6 o7 o8 : Option D), (∀ s ∈ ss, 0 < s.p ∧ s.p ≤ 60) → (∀ q ∈ l, FrOk q) → l.length + ss.length ≤ 50 → PuB k xs → k + 10 * ss.length ≤ 300000 →
    ∃ (l' : List (Int × Int)) (ys : List D) (p4 p5 p6 p7 p8 : Option D), (∀ q ∈ l', FrOk q) ∧ l'.length = l.length + ss.length ∧ kLoop (.tp [4, 5, 6, 7]) phB (ss.map tupD) [.bor xs, .val N, .own (l.map frD), .val (.int mn), vo' o4, vo' o5, vo' o6, vo' o7, vo' o8] =
      some (.nx, [.bor ys, .val N, .own (l'.map frD), .val (.int mn), vo' p4, vo' p5, vo' p6, vo' p7, vo' p8]) ∧ PuB (k + 10 * ss.length) ys
  | [], l, k, xs, o4, o5, o6, o7, o8, _, hq, _, h, _ => ⟨l, xs, o4, o5, o6, o7, o8, hq, rfl, rfl, h⟩
  | s :: ss, l, k, xs, o4, o5, o6, o7, o8, hs, hq, hl, h, hk => by
    simp at hl hk
    obtain ⟨q, ys, o8', f, e1, h1⟩ := ph_body (s := s) (N := N) (l := l) (o8 := o8) (hs s List.mem_cons_self).1 (hs s List.mem_cons_self).2 m0 m1 (by omega) h (by omega)
    obtain ⟨l', zs, p4, p5, p6, p7, p8, f2, l2, e2, h2⟩ := ph_loop m0 m1 N ss (l ++ [q]) (k + 10) ys (some (.str s.nm)) (some (.int s.p)) (some (.int s.l)) (some (.tup (s.rd.map .str))) o8' (fun t ht => hs t (List.mem_cons_of_mem _ ht)) (fun t ht => by
      rcases List.mem_append.mp ht with z | z
      · exact hq t z
      · rw [List.mem_singleton] at z; rw [z]; exact f) (by simp; omega) h1 (by omega)
    exact ⟨l', zs, p4, p5, p6, p7, p8, f2, by rw [l2]; simp; omega, kLoop_nx rfl e1 e2, h2.mono (by simp; omega)⟩
theorem kParL_of {i j : Nat} {a : SA} {e : SE} {ρ ρ1 ρ2 r ρ3 : Rho} {xs : List D} {d : D} (h : a ρ = some (xs, ρ1)) (hl : xs.length ≤ LN) (h2 : e (blkR [] ρ1) = some (d, ρ2)) (h3 : restore ρ1 ρ2 = some r) (h4 : (r.set j (.val d)).set i (.own xs) = ρ3) : kParL i j a e ρ = some (.nx, ρ3) := by
  unfold kParL
  rw [h]
  simp only [hl, if_true, h2, h3, h4]
theorem law_phases_fr {ns : Nt} (N : DrNet ns) {k : Nat} {xs : List D} (h : PuB k xs) (hk : k ≤ 200000) : ∃ ph ys, m_law_phases [.bor xs, .val (.tup (ns.map tupD))] = some (.tup (ph.map frD), ys) ∧ (∀ q ∈ ph, FrOk q) ∧ Phs ph ∧ ph.length = ns.length ∧ PuB (k + 50) ys := by
  have n4 := N.ln
  obtain ⟨n, x, zs, e2, e3, h2⟩ := law_pick_eq (its := [.int 1, .int 1, .int 2, .int 3, .int 4, .int 7, .int 60]) h (by omega) (by show 0 < 7; decide) (by show 7 < 1000000; decide)
  obtain ⟨t, rfl, t0, t1⟩ : ∃ t : Int, x = .int t ∧ 0 < t ∧ t ≤ 60 := by
    match n, e3 with
    | 0, q => exact ⟨1, (Option.some.inj q).symm, by decide, by decide⟩
    | 1, q => exact ⟨1, (Option.some.inj q).symm, by decide, by decide⟩
    | 2, q => exact ⟨2, (Option.some.inj q).symm, by decide, by decide⟩
    | 3, q => exact ⟨3, (Option.some.inj q).symm, by decide, by decide⟩
    | 4, q => exact ⟨4, (Option.some.inj q).symm, by decide, by decide⟩
    | 5, q => exact ⟨7, (Option.some.inj q).symm, by decide, by decide⟩
    | 6, q => exact ⟨60, (Option.some.inj q).symm, by decide, by decide⟩
    | n + 7, q => cases q
  obtain ⟨ph, us, p4, p5, p6, p7, p8, f, l, e4, h4⟩ := ph_loop t0 t1 (.tup (ns.map tupD)) ns [] (k + 1) zs none none none none none (fun s hs => ⟨(N.st.1 s hs).1, N.p s hs⟩) (fun q hq => by cases hq) (by simp; omega) h2 (by omega)
  have pl : ph.length = ns.length := by rw [l]; simp
  refine ⟨ph, us, ?_, f, ⟨fun q hq => ?_, by omega⟩, pl, h4.mono (by omega)⟩
  · refine mir_rt (ρ0 := [.bor xs, .val (.tup (ns.map tupD)), .no, .no, .no, .no, .no, .no, .no]) (ρ := [.bor us, .val (.tup (ns.map tupD)), .val (.lst (ph.map frD)), .val (.int t), vo' p4, vo' p5, vo' p6, vo' p7, vo' p8]) rfl ?_ rfl
    refine kS_nx (ρ1 := [.bor zs, .val (.tup (ns.map tupD)), .own [], .val (.int t), .no, .no, .no, .no, .no]) (kParL_of rfl (by decide) (callM rfl (aC_of (sL_of (aC_of rfl (aC_of rfl (aC_of rfl (aC_of rfl (aC_of rfl (aC_of rfl (aC_of rfl rfl))))))) gLst7) rfl) rfl rfl e2 rfl) rfl rfl) ?_
    refine kS_nx (kFor_of rfl e4) ?_
    exact kRet_of (sL_of (aC_of rfl rfl) rfl)
  · obtain ⟨a1, a2, a3, a4⟩ := f q hq
    exact ⟨a1, sm60' (by omega) (by omega), sm60' (by omega) (by omega)⟩
theorem law_phases_eq {ns : Nt} (N : DrNet ns) {k : Nat} {xs : List D} (h : PuB k xs) (hk : k ≤ 200000) : ∃ ph ys, m_law_phases [.bor xs, .val (.tup (ns.map tupD))] = some (.tup (ph.map frD), ys) ∧ Phs ph ∧ ph.length = ns.length ∧ PuB (k + 50) ys := by
  obtain ⟨ph, ys, e, _, h1, h2, h3⟩ := law_phases_fr N h hk
  exact ⟨ph, ys, e, h1, h2, h3⟩
end Toy

set_option Elab.async false
set_option linter.all false
set_option maxRecDepth 100000
set_option maxHeartbeats 8000000
namespace Toy
open PySem PySem.Spec PyProof.Rows L2 VS
section
variable {ns : Nt} {S : List Int} {sc : Int} {P : List Nat} {m : Nat}
theorem bw_fold : ∀ (l : List Nat) (best : Option Int),
    (∀ i ∈ l, inc ns S sc P m i → ∃ v, l.foldl (bw ns S sc P m) best = some v ∧ wt ns S sc P m i ≤ v) ∧
    (∀ b, best = some b → ∃ v, l.foldl (bw ns S sc P m) best = some v ∧ b ≤ v) ∧
    (∀ v, l.foldl (bw ns S sc P m) best = some v → best = some v ∨ ∃ i ∈ l, inc ns S sc P m i ∧ wt ns S sc P m i = v)
  | [], best => ⟨fun i h => (by cases h), fun b e => ⟨b, e, Int.le_refl _⟩, fun v e => .inl e⟩
  | j :: l, best => by
    obtain ⟨h1, h2, h3⟩ := bw_fold l (bw ns S sc P m best j)
    rw [List.foldl_cons]
    refine ⟨fun i hi z => ?_, fun b e => ?_, fun v e => ?_⟩
    · rcases List.mem_cons.mp hi with rfl | hi
      · cases e : best with
        | none =>
          have : bw ns S sc P m best i = some (wt ns S sc P m i) := by unfold bw; rw [if_pos z, e]
          rw [← e]
          exact h2 _ this
        | some b =>
          by_cases g : b < wt ns S sc P m i
          · have : bw ns S sc P m best i = some (wt ns S sc P m i) := by unfold bw; rw [if_pos z, e]; simp only [if_pos g]
            rw [← e]
            exact h2 _ this
          · have : bw ns S sc P m best i = some b := by unfold bw; rw [if_pos z, e]; simp only [if_neg g]
            obtain ⟨v, e1, e2⟩ := h2 _ this
            rw [← e]
            exact ⟨v, e1, by omega⟩
      · exact h1 i hi z
    · subst e
      by_cases z : inc ns S sc P m j
      · by_cases g : b < wt ns S sc P m j
        · have : bw ns S sc P m (some b) j = some (wt ns S sc P m j) := by unfold bw; rw [if_pos z]; simp only [if_pos g]
          obtain ⟨v, e1, e2⟩ := h2 _ this
          exact ⟨v, e1, by omega⟩
        · have : bw ns S sc P m (some b) j = some b := by unfold bw; rw [if_pos z]; simp only [if_neg g]
          exact h2 _ this
      · have : bw ns S sc P m (some b) j = some b := by unfold bw; rw [if_neg z]
        exact h2 _ this
    · rcases h3 v e with q | ⟨i, hi, z, w⟩
      · by_cases z : inc ns S sc P m j
        · cases e : best with
          | none =>
            have : bw ns S sc P m best j = some (wt ns S sc P m j) := by unfold bw; rw [if_pos z, e]
            rw [this] at q
            exact .inr ⟨j, List.mem_cons_self, z, Option.some.inj q⟩
          | some b =>
            by_cases g : b < wt ns S sc P m j
            · have : bw ns S sc P m best j = some (wt ns S sc P m j) := by unfold bw; rw [if_pos z, e]; simp only [if_pos g]
              rw [this] at q
              exact .inr ⟨j, List.mem_cons_self, z, Option.some.inj q⟩
            · have : bw ns S sc P m best j = some b := by unfold bw; rw [if_pos z, e]; simp only [if_neg g]
              rw [this] at q
              exact .inl q
        · have : bw ns S sc P m best j = best := by unfold bw; rw [if_neg z]
          rw [this] at q
          exact .inl q
      · exact .inr ⟨i, List.mem_cons_of_mem _ hi, z, w⟩
/-! the runs of a path, as time goes on -/
theorem Ask.pd (A : Ask ns S sc P m) {i : Nat} (h : i ≤ m) : 0 < pp ns (atP P i) ∧ pp ns (atP P i) ∣ lcmL (turns ns) := by
  obtain ⟨q1, q2⟩ := A.place h
  obtain ⟨s, e1, p1, l1, h1, h2, h3⟩ := A.step q2
  rw [p1]
  exact ⟨h1, lcmF_mem (List.mem_map.mpr ⟨s, List.mem_of_getElem? e1, rfl⟩)⟩
theorem rr_mono (A : Ask ns S sc P m) {k : Nat} (hk : k + 1 ≤ m) {x y : Int} (h : x ≤ y) : rr ns S sc (atP P (k + 1)) (atP P k) x ≤ rr ns S sc (atP P (k + 1)) (atP P k) y := by
  have p1 := (A.pd hk).1
  have p2 := (A.pd (i := k) (by omega)).1
  unfold rr
  refine Int.ediv_le_ediv (Int.mul_pos p2 A.c0) ?_
  have h1 : x * pp ns (atP P (k + 1)) ≤ y * pp ns (atP P (k + 1)) := Int.mul_le_mul_of_nonneg_right h (Int.le_of_lt p1)
  have h2 := Int.mul_le_mul_of_nonneg_right h1 (Int.le_of_lt A.c0)
  omega
theorem carry_mono (A : Ask ns S sc P m) : ∀ (k : Nat) {x y : Int}, k ≤ m → x ≤ y → carry ns S sc P k x ≤ carry ns S sc P k y
  | 0, _, _, _, h => h
  | k + 1, x, y, hk, h => carry_mono A k (by omega) (rr_mono A hk h)
theorem rr_turn (A : Ask ns S sc P m) {k : Nat} (hk : k + 1 ≤ m) (x : Int) : rr ns S sc (atP P (k + 1)) (atP P k) (x + lcmL (turns ns) / pp ns (atP P (k + 1))) = rr ns S sc (atP P (k + 1)) (atP P k) x + lcmL (turns ns) / pp ns (atP P k) := by
  obtain ⟨p1, d1⟩ := A.pd hk
  obtain ⟨p2, d2⟩ := A.pd (i := k) (by omega)
  have e1 := Int.ediv_mul_cancel d1
  have e2 := Int.ediv_mul_cancel d2
  have pos : 0 < pp ns (atP P k) * sc := Int.mul_pos p2 A.c0
  unfold rr
  have : ss S (atP P (k + 1)) + (x + lcmL (turns ns) / pp ns (atP P (k + 1))) * pp ns (atP P (k + 1)) * sc - ss S (atP P k) - ll ns (atP P k) * sc =
      ss S (atP P (k + 1)) + x * pp ns (atP P (k + 1)) * sc - ss S (atP P k) - ll ns (atP P k) * sc + lcmL (turns ns) / pp ns (atP P k) * (pp ns (atP P k) * sc) := by
    rw [Int.add_mul, e1, Int.add_mul, ← Int.mul_assoc (lcmL (turns ns) / pp ns (atP P k)), e2]
    omega
  rw [this, Int.add_mul_ediv_right _ _ (by omega)]
theorem carry_turn (A : Ask ns S sc P m) : ∀ (k : Nat) (x : Int), k ≤ m → carry ns S sc P k (x + lcmL (turns ns) / pp ns (atP P k)) = carry ns S sc P k x + lcmL (turns ns) / pp ns (atP P 0)
  | 0, _, _ => rfl
  | k + 1, x, hk => by
    show carry ns S sc P k (rr ns S sc _ _ _) = _
    rw [rr_turn A hk, carry_turn A k _ (by omega)]
    rfl
theorem tm_next (r q : Int) : tm ns S sc P m (r + 1) q = tm ns S sc P m r q + pp ns (atP P m) * sc := by
  unfold tm
  rw [Int.add_mul, Int.add_mul, Int.one_mul]
  omega
theorem tm_turn (A : Ask ns S sc P m) (r q : Int) : tm ns S sc P m (r + lcmL (turns ns) / pp ns (atP P m)) (q + lcmL (turns ns) / pp ns (atP P 0)) = tm ns S sc P m r q := by
  have e1 := Int.ediv_mul_cancel (A.pd (Nat.le_refl m)).2
  have e2 := Int.ediv_mul_cancel (A.pd (Nat.zero_le m)).2
  unfold tm
  rw [Int.add_mul, e1, Int.add_mul, Int.add_mul q, e2, Int.add_mul]
  omega
def ageI (ns : Nt) (S : List Int) (sc : Int) (P : List Nat) (m : Nat) (i : Int) : Int := tm ns S sc P m i (carry ns S sc P m i)
theorem age_turn (A : Ask ns S sc P m) (i : Int) : ageI ns S sc P m (i + lcmL (turns ns) / pp ns (atP P m)) = ageI ns S sc P m i := by
  unfold ageI
  rw [carry_turn A m i (Nat.le_refl m), tm_turn A]
theorem many_pos (A : Ask ns S sc P m) : 0 < manyR ns P m ∧ ((manyR ns P m : Nat) : Int) = lcmL (turns ns) / pp ns (atP P m) := by
  obtain ⟨p, d⟩ := A.pd (Nat.le_refl m)
  have t := turns_pos A.st
  have q := Int.ediv_pos_of_pos_of_dvd t (Int.le_of_lt p) d
  unfold manyR
  omega
/-- the longest wait is the greatest age and one period of the last step -/
theorem wait_is (A : Ask ns S sc P m) {hi : Int} (h1 : hi ∈ agesL ns S sc P m) (h2 : ∀ x ∈ agesL ns S sc P m, x ≤ hi) :
    (List.range (manyR ns P m)).foldl (bw ns S sc P m) none = some (hi + pp ns (atP P m) * sc) := by
  obtain ⟨n0, n1⟩ := many_pos A
  have T0 : 0 < pp ns (atP P m) * sc := Int.mul_pos (A.pd (Nat.le_refl m)).1 A.c0
  have up : ∀ i : Nat, i < manyR ns P m → ageI ns S sc P m (i : Nat) ≤ hi := fun i h => h2 _ (List.mem_map.mpr ⟨i, List.mem_range.mpr h, rfl⟩)
  have lastA : ageI ns S sc P m (-1) = ageI ns S sc P m ((manyR ns P m - 1 : Nat) : Int) := by
    have := age_turn A (-1)
    rw [← n1] at this
    rw [← this]
    congr 1
    omega
  have up' : ∀ i : Nat, i < manyR ns P m → ageI ns S sc P m (-1 + (i : Nat)) ≤ hi := fun i h => by
    by_cases z : i = 0
    · subst z
      have := up (manyR ns P m - 1) (by omega)
      rw [← lastA] at this
      exact this
    · have := up (i - 1) (by omega)
      have e : ((i - 1 : Nat) : Int) = -1 + (i : Nat) := by omega
      rw [e] at this
      exact this
  have wte : ∀ i : Nat, wt ns S sc P m i = ageI ns S sc P m (-1 + (i : Nat)) + pp ns (atP P m) * sc := fun i => by
    unfold wt ageI
    rw [← tm_next]
    congr 1
    omega
  obtain ⟨j, hj, ej⟩ := List.mem_map.mp h1
  have jl := List.mem_range.mp hj
  obtain ⟨i, il, ie⟩ : ∃ i : Nat, i < manyR ns P m ∧ ageI ns S sc P m (-1 + (i : Nat)) = hi := by
    by_cases z : j + 1 < manyR ns P m
    · refine ⟨j + 1, z, ?_⟩
      rw [show (-1 : Int) + ((j + 1 : Nat) : Int) = (j : Nat) by omega]
      exact ej
    · refine ⟨0, n0, ?_⟩
      have e : ageI ns S sc P m (-1) = hi := by
        rw [lastA, show manyR ns P m - 1 = j by omega]
        exact ej
      exact e
  have on : inc ns S sc P m i := by
    have mo := carry_mono A m (Nat.le_refl m) (show (-1 : Int) + (i : Nat) ≤ -1 + ((i + 1 : Nat) : Int) by omega)
    rcases Int.lt_or_eq_of_le mo with q | q
    · exact q
    · exfalso
      have e : (-1 : Int) + ((i + 1 : Nat) : Int) = (i : Nat) := by omega
      rw [e] at q
      have a1 := up i il
      have w1 := wte i
      unfold wt at w1
      rw [q] at w1
      have a2 : ageI ns S sc P m (i : Nat) = tm ns S sc P m (i : Nat) (carry ns S sc P m (i : Nat)) := rfl
      omega
  obtain ⟨f1, _, f3⟩ := bw_fold (ns := ns) (S := S) (sc := sc) (P := P) (m := m) (List.range (manyR ns P m)) none
  obtain ⟨v, e1, e2⟩ := f1 i (List.mem_range.mpr il) on
  rw [e1]
  rcases f3 v e1 with q | ⟨t, ht, z, w⟩
  · cases q
  · rw [wte] at e2 w
    have := up' t (List.mem_range.mp ht)
    congr 1
    omega
/-- how large an age may be -/
theorem tm_sm (A : Ask ns S sc P m) {r q : Int} (h1 : Sm 100 r) (h2 : Sm 3400 q) : Sm 3870 (tm ns S sc P m r q) := by
  obtain ⟨a1, a2⟩ := A.place (Nat.le_refl m)
  obtain ⟨b1, b2⟩ := A.place (Nat.zero_le m)
  obtain ⟨s, e1, p1, l1, k1, k2, k3⟩ := A.step a2
  obtain ⟨t, e2, p2, l2, g1, g2, g3⟩ := A.step b2
  obtain ⟨x, e3, x1, x2⟩ := A.start a2
  obtain ⟨y, e4, y1, y2⟩ := A.start b2
  unfold tm
  rw [p1, p2, l1, x1, y1]
  have u1 : Sm 561 (x + r * s.p * sc) := x2.add' ((h1.mul k2).mul A.bc) (by decide) (by decide)
  have u2 : Sm 562 (x + r * s.p * sc + s.l * sc) := u1.add' (k3.mul A.bc) (by decide) (by decide)
  have u3 : Sm 3861 (y + q * t.p * sc) := y2.add' ((h2.mul g2).mul A.bc) (by decide) (by decide)
  exact u2.sub' u3 (by decide) (by decide)
end
theorem dvd_ab {g a : Int} (h : g ∣ ab a) : g ∣ a := by
  unfold ab at h
  split at h
  · exact Int.dvd_neg.mp h
  · exact h
theorem mul4 (a b c d : Int) : (a * b) * (c * d) = (a * c) * (b * d) := by
  rw [Int.mul_assoc, Int.mul_left_comm b c d, ← Int.mul_assoc]
/-- the two fractions, crosswise -/
theorem cross {hi p c : Int} (hc : 0 < c) : (hi / gd (ab hi) c + p * (c / gd (ab hi) c)) * (c / gd (ab (hi + p * c)) c) = (hi + p * c) / gd (ab (hi + p * c)) c * (c / gd (ab hi) c) := by
  have g1 := gd_pos (a := ab hi) hc
  have g2 := gd_pos (a := ab (hi + p * c)) hc
  obtain ⟨h', e1⟩ := dvd_ab (gd_dvd_l (ab hi) c)
  obtain ⟨c1, e2⟩ := gd_dvd_r (ab hi) c
  obtain ⟨w', e3⟩ := dvd_ab (gd_dvd_l (ab (hi + p * c)) c)
  obtain ⟨c2, e4⟩ := gd_dvd_r (ab (hi + p * c)) c
  generalize gd (ab hi) c = g at *
  generalize gd (ab (hi + p * c)) c = f at *
  have q1 : hi / g = h' := by rw [e1]; exact Int.mul_ediv_cancel_left _ (by omega)
  have q2 : c / g = c1 := by rw [e2]; exact Int.mul_ediv_cancel_left _ (by omega)
  have q3 : (hi + p * c) / f = w' := by rw [e3]; exact Int.mul_ediv_cancel_left _ (by omega)
  have q4 : c / f = c2 := by rw [e4]; exact Int.mul_ediv_cancel_left _ (by omega)
  rw [q1, q2, q3, q4]
  have k : (g * f) * ((h' + p * c1) * c2) = (g * f) * (w' * c1) := by
    have l1 : (g * f) * ((h' + p * c1) * c2) = (hi + p * c) * c := by
      calc (g * f) * ((h' + p * c1) * c2) = (g * (h' + p * c1)) * (f * c2) := by rw [mul4]
        _ = (g * h' + p * (g * c1)) * (f * c2) := by rw [Int.mul_add, Int.mul_left_comm g p c1]
        _ = (hi + p * c) * c := by rw [← e1, ← e2, ← e4]
    have l2 : (g * f) * (w' * c1) = (hi + p * c) * c := by
      calc (g * f) * (w' * c1) = (f * w') * (g * c1) := by rw [Int.mul_comm g f, mul4]
        _ = (hi + p * c) * c := by rw [← e3, ← e2]
    rw [l1, l2]
  exact Int.eq_of_mul_eq_mul_left (by have := Int.mul_pos g1 g2; omega) k
end Toy

set_option Elab.async false
set_option linter.all false
set_option maxRecDepth 100000
set_option maxHeartbeats 8000000
namespace Toy
open PySem PySem.Spec PyProof.Rows L2 VS
section
variable {ns : Nt} {S : List Int} {sc : Int} {P : List Nat} {m : Nat} {PH PA : D}
theorem run_carried_eq' (A : Ask ns S sc P m) {b : Nat} {run : Int} (h : Sm b run) (hb : 100 ≤ b) (hb2 : b + 465 * m ≤ 3400) :
    m_run_carried [.val (netD ns), .val (.lst (S.map .int)), .val (.int sc), .val (.lst (P.map fun i => .int (i : Nat))), .val (.int run)] = some (.int (carry ns S sc P m run), []) ∧ Sm (b + 465 * m) (carry ns S sc P m run) := by
  have pm := A.pm
  obtain ⟨y, e, e2⟩ := rc_loop A m b run .no (Nat.le_refl _) h hb hb2
  refine ⟨?_, e2⟩
  have l1 : ((P.map fun i => D.int (i : Nat)).length : Int) - 1 = (m : Nat) := by rw [List.length_map, A.pl]; omega
  have l2 : small62 (m : Int) := ⟨by omega, by omega⟩
  have l4 : small62 0 := ⟨by decide, by decide⟩
  have l3 : ((m : Int) - 0).toNat = m := by omega
  simp only [m_run_carried, b_run_carried, mir, List.length_cons, List.length_nil, Nat.zero_add, Nat.reduceAdd, Nat.reduceSub, List.cons_append, List.nil_append, List.replicate, kS, kFor, iRD, aC, aN, s2, s1, sL, sV, sK, List.getElem?_cons_zero, List.getElem?_cons_succ, gLen_lst, gNeg_int, gSub_eq, l1, l2, l4, and_self, if_true, l3, e, kRet, outOf]
/-! a path cut in two -/
theorem carry_congr {P' : List Nat} : ∀ (k : Nat) (x : Int), (∀ j, j ≤ k → atP P j = atP P' j) → carry ns S sc P k x = carry ns S sc P' k x
  | 0, _, _ => rfl
  | k + 1, x, h => by
    show carry ns S sc P k (rr ns S sc (atP P (k + 1)) (atP P k) x) = carry ns S sc P' k (rr ns S sc (atP P' (k + 1)) (atP P' k) x)
    rw [h (k + 1) (Nat.le_refl _), h k (by omega)]
    exact carry_congr k _ fun j hj => h j (by omega)
theorem atP_drop (c j : Nat) : atP (P.drop c) j = atP P (c + j) := by
  unfold atP
  rw [List.getElem?_drop]
theorem atP_take {c j : Nat} (h : j < c) : atP (P.take c) j = atP P j := by
  unfold atP
  rw [List.getElem?_take_of_lt h]
theorem carry_cut (c : Nat) : ∀ (d : Nat) (x : Int), carry ns S sc P (c + d) x = carry ns S sc P c (carry ns S sc (P.drop c) d x)
  | 0, _ => rfl
  | d + 1, x => by
    show carry ns S sc P (c + d) (rr ns S sc (atP P (c + d + 1)) (atP P (c + d)) x) = carry ns S sc P c (carry ns S sc (P.drop c) d (rr ns S sc (atP (P.drop c) (d + 1)) (atP (P.drop c) d) x))
    rw [atP_drop, atP_drop, carry_cut c d]
    rfl
theorem age_cut {c d : Nat} (x : Int) : ageI ns S sc P (c + d) x = ageI ns S sc (P.take (c + 1)) c (carry ns S sc (P.drop c) d x) + ageI ns S sc (P.drop c) d x - ll ns (atP P c) * sc := by
  unfold ageI
  rw [carry_cut, carry_congr (P := P.take (c + 1)) (P' := P) c _ fun j hj => atP_take (by omega)]
  unfold tm
  rw [atP_drop, atP_drop, atP_take (show c < c + 1 by omega), atP_take (show 0 < c + 1 by omega), Nat.add_zero]
  omega
end
theorem pth_take {ns : Nt} {P : List Nat} (h : Pth ns P) (c : Nat) : Pth ns (P.take (c + 1)) where
  pi := fun i hi => h.pi i (List.mem_of_mem_take hi)
  ne := by
    have := List.length_pos_iff.mpr h.ne
    intro z
    have := congrArg List.length z
    rw [List.length_take, List.length_nil] at this
    omega
  st := fun j hj => by
    rw [List.length_take] at hj
    rw [atP_take (by omega), atP_take (by omega)]
    exact h.st j (by omega)
theorem pth_drop {ns : Nt} {P : List Nat} (h : Pth ns P) {c : Nat} (hc : c < P.length) : Pth ns (P.drop c) where
  pi := fun i hi => h.pi i (List.mem_of_mem_drop hi)
  ne := by
    intro z
    have := congrArg List.length z
    rw [List.length_drop, List.length_nil] at this
    omega
  st := fun j hj => by
    rw [List.length_drop] at hj
    rw [atP_drop, atP_drop]
    exact h.st (c + j) (by omega)
/-! fractions in lowest terms -/
theorem ab_mul {a k : Int} (hk : 0 < k) : ab (a * k) = ab a * k := by
  unfold ab
  by_cases h : a < 0
  · have : a * k < 0 := Int.mul_neg_of_neg_of_pos h hk
    rw [if_pos h, if_pos this, Int.neg_mul]
  · have : ¬ a * k < 0 := by
      have := Int.mul_nonneg (show 0 ≤ a by omega) (Int.le_of_lt hk)
      omega
    rw [if_neg h, if_neg this]
theorem gd_mul {a b k : Int} (hk : 0 < k) : gd (a * k) (b * k) = gd a b * k := by
  unfold gd
  rw [Int.gcd_mul_right]
  have : ((k.natAbs : Nat) : Int) = k := by omega
  rw [Int.natCast_mul, this]
theorem lowD_scale {a b k : Int} (hk : 0 < k) : lowD (a * k) (b * k) = lowD a b := by
  unfold lowD
  rw [ab_mul hk, gd_mul hk, Int.mul_ediv_mul_of_pos_left _ _ hk, Int.mul_ediv_mul_of_pos_left _ _ hk]
theorem lowD_eq {a b a' b' : Int} (hb : 0 < b) (hb' : 0 < b') (h : a * b' = a' * b) : lowD a b = lowD a' b' := by
  rw [← lowD_scale (a := a) (b := b) hb', ← lowD_scale (a := a') (b := b') hb, h, Int.mul_comm b b']
theorem q_sm {k : Nat} {c g : Int} (c0 : 0 < c) (h : Sm k c) (hg : 0 < g) : Sm k (c / g) := by
  have h1 := Int.ediv_le_self g (Int.le_of_lt c0)
  have h2 : 0 ≤ c / g := Int.ediv_nonneg (Int.le_of_lt c0) (Int.le_of_lt hg)
  unfold Sm at *
  omega
theorem low_parts {x c : Int} (hc : 0 < c) : ∃ g, 0 < g ∧ gd (ab x) c = g ∧ x = g * (x / g) ∧ c = g * (c / g) ∧ 0 < c / g := by
  have g0 := gd_pos (a := ab x) hc
  refine ⟨gd (ab x) c, g0, rfl, ?_, ?_, Int.ediv_pos_of_pos_of_dvd hc (Int.le_of_lt g0) (gd_dvd_r _ _)⟩
  · exact (Int.mul_ediv_cancel' (dvd_ab (gd_dvd_l (ab x) c))).symm
  · exact (Int.mul_ediv_cancel' (gd_dvd_r (ab x) c)).symm
theorem low0 {x c : Int} : gIx (lowD x c) (.int 0) = some (.int (x / gd (ab x) c)) := rfl
theorem low1 {x c : Int} : gIx (lowD x c) (.int 1) = some (.int (c / gd (ab x) c)) := rfl
/-! a drawn run -/
theorem run_loop : ∀ (l : List Nat) (k : Nat) (xs : List D) (n B : Int) (x2 : Sl), PuB k xs → k + l.length ≤ 500000 → 0 ≤ n → n < B → Sm 300 B → l.length ≤ 10 → 0 < B → B * 1000 ^ l.length ≤ 2 ^ 99 → ∃ n' ys y2, 0 ≤ n' ∧ n' < 2 ^ 99 ∧
    kLoop (.nm 2) (kSet 1 (s2 gAdd (s2 gMul (sV 1) (sK (.int 1000))) (sCallM 2 m_law_draw 0 (aC (sK (.int 999)) aN)))) (l.map fun j => .int (j : Nat)) [.bor xs, .val (.int n), x2] = some (.nx, [.bor ys, .val (.int n'), y2]) ∧ PuB (k + l.length) ys
  | [], k, xs, n, B, x2, h, _, n0, n1, _, _, _, hB => ⟨n, xs, x2, n0, by rw [List.length_nil, Int.pow_zero, Int.mul_one] at hB; omega, rfl, h⟩
  | j :: l, k, xs, n, B, x2, h, hk, n0, n1, sB', hl, B0, hB => by
    obtain ⟨d, ys, e1, l1, u1, h1⟩ := law_draw_eq (m := 999) h (by simp at hk; omega) (by decide) (sm_of (k := 3000) (by decide) (by decide +kernel))
    rw [List.length_cons, Int.pow_succ', ← Int.mul_assoc] at hB
    have pw : 1 ≤ (1000 : Int) ^ l.length := Int.pow_pos (by decide)
    have B9 : B * 1000 ≤ 2 ^ 99 := by
      have : B * 1000 * 1 ≤ B * 1000 * 1000 ^ l.length := Int.mul_le_mul_of_nonneg_left pw (by omega)
      omega
    obtain ⟨n', zs, y2, a1, a2, a3, a4⟩ := run_loop l (k + 1) ys (n * 1000 + d) (B * 1000) (.val (.int (j : Nat))) h1 (by simp at hk; omega) (by omega) (by omega) (sm_of (by omega) (Int.lt_of_le_of_lt B9 (by decide +kernel))) (by simp at hl; omega) (by omega) hB
    have bn : Bd n := (sm_of (k := 99) n0 (by omega) : Sm 99 n).bd (by decide)
    have bk : Bd 1000 := (sm60 (by decide) (by decide)).bd (by decide)
    exact ⟨n', zs, y2, a1, a2, kLoop_nx rfl (kSet_to' (s2_of (s2_of rfl rfl (gMul_eq bn bk)) (callM rfl (aC_of rfl rfl) rfl rfl e1 rfl) gAdd_eq) rfl) a3, a4.mono (by simp; omega)⟩
theorem law_run_eq {k : Nat} {xs : List D} (h : PuB k xs) (hk : k ≤ 200000) : ∃ r ys, m_law_run [.bor xs] = some (.int r, ys) ∧ Sm 100 r ∧ PuB (k + 20) ys := by
  obtain ⟨d, ys, e1, l1, u1, h1⟩ := law_draw_eq (m := 50) h (by omega) (by decide) (sm_of (k := 3000) (by decide) (by decide +kernel))
  obtain ⟨n, x, zs, e2, e3, h2⟩ := law_pick_eq (its := [.int 0, .int 0, .int 0, .int 1, .int 9]) h1 (by omega) (by show 0 < 5; decide) (by show 5 < 1000000; decide)
  obtain ⟨t, rfl, t9⟩ : ∃ t : Nat, x = .int (t : Nat) ∧ t ≤ 9 := by
    match n, e3 with
    | 0, q => exact ⟨0, (Option.some.inj q).symm, by decide⟩
    | 1, q => exact ⟨0, (Option.some.inj q).symm, by decide⟩
    | 2, q => exact ⟨0, (Option.some.inj q).symm, by decide⟩
    | 3, q => exact ⟨1, (Option.some.inj q).symm, by decide⟩
    | 4, q => exact ⟨9, (Option.some.inj q).symm, by decide⟩
    | n + 5, q => cases q
  have big : (50 : Int) * 1000 ^ (List.range' 0 t).length ≤ 2 ^ 99 := by
    rw [List.length_range']
    have q : ((List.range 10).all fun t => decide ((50 : Int) * 1000 ^ t ≤ 2 ^ 99)) = true := by decide +kernel
    exact of_decide_eq_true (List.all_eq_true.mp q t (List.mem_range.mpr (by omega)))
  obtain ⟨n', us, y2, a1, a2, e4, h4⟩ := run_loop (List.range' 0 t) (k + 1 + 1) zs d 50 .no h2 (by simp; omega) l1 u1 (sm_of (by decide) (by decide +kernel)) (by simp; omega) (by decide) big
  rw [List.length_range'] at h4
  obtain ⟨p, w, vs', e5, e6, h5⟩ := law_pick_eq (its := [.int 0, .int (2 * n')]) h4 (by omega) (by show 0 < 2; decide) (by show 2 < 1000000; decide)
  obtain ⟨v, rfl, hv⟩ : ∃ v : Int, w = .int v ∧ (v = 0 ∨ v = 2 * n') := by
    match p, e6 with
    | 0, q => exact ⟨0, (Option.some.inj q).symm, .inl rfl⟩
    | 1, q => exact ⟨2 * n', (Option.some.inj q).symm, .inr rfl⟩
    | n + 2, q => cases q
  have g5 : gLst [.int 0, .int 0, .int 0, .int 1, .int 9] = some (.lst [.int 0, .int 0, .int 0, .int 1, .int 9]) := by
    unfold gLst
    rw [if_pos (by decide)]
  have g2 : gLst [.int 0, .int (2 * n')] = some (.lst [.int 0, .int (2 * n')]) := by
    unfold gLst
    rw [if_pos (by show 2 ≤ 1000000; decide)]
  have b2 : Bd 2 := (sm60 (by decide) (by decide)).bd (by decide)
  have bn : Bd n' := (sm_of (k := 99) a1 a2 : Sm 99 n').bd (by decide)
  have sr : Sm 100 (n' - v) := by
    have z : (2 : Nat) ^ 99 < 2 ^ 100 := by decide
    have q : (n'.natAbs : Nat) < 2 ^ 99 := sm_of (k := 99) a1 a2
    unfold Sm
    rcases hv with rfl | rfl <;> omega
  refine ⟨n' - v, vs', ?_, sr, h5.mono (by omega)⟩
  refine mir_rt (ρ0 := [.bor xs, .no, .no]) (ρ := [.bor vs', .val (.int n'), y2]) rfl ?_ rfl
  refine kS_nx (ρ1 := [.bor ys, .val (.int d), .no]) (kSet_to' (callM rfl (aC_of rfl rfl) rfl rfl e1 rfl) rfl) ?_
  refine kS_nx (kFor_of (iR_len (aC_of (callM rfl (aC_of (sL_of (aC_of rfl (aC_of rfl (aC_of rfl (aC_of rfl (aC_of rfl rfl))))) g5) rfl) rfl rfl e2 rfl) rfl) (by omega)) e4) ?_
  exact kRet_of (s2_of rfl (callM rfl (aC_of (sL_of (aC_of rfl (aC_of (s2_of rfl rfl (gMul_eq b2 bn)) rfl)) g2) rfl) rfl rfl e5 rfl) gSub_eq)
end Toy

set_option Elab.async false
set_option linter.all false
set_option maxRecDepth 100000
set_option maxHeartbeats 8000000
namespace Toy
open PySem PySem.Spec PyProof.Rows L2 VS
theorem dr_ask {ns : Nt} {P : List Nat} {ph : List (Int × Int)} {m : Nat} (N : DrNet ns) (h : Phs ph) (hl : ph.length = ns.length) (hP : Pth ns P) (hm : P.length = m + 1) (m6 : m ≤ 6) : Ask ns (unitL ph) (unitS ph) P m where
  st := N.st
  len := by unfold unitL; rw [List.length_map]; exact hl
  bS := fun x hx => by
    unfold unitL at hx
    obtain ⟨p, hp, rfl⟩ := List.mem_map.mp hx
    exact ((h.1 p hp).2.2.mul (h.q hp)).mono (by decide)
  c0 := h.pos
  bc := h.sm
  pl := hm
  pm := m6
  pi := hP.pi
  lc := N.lc
theorem dr_entry {ns : Nt} {P : List Nat} {ph : List (Int × Int)} (N : DrNet ns) (h : Phs ph) (hl : ph.length = ns.length) (hP : Pth ns P) (h4 : P.length ≤ 4000) : Entry ns (unitL ph) (unitS ph) P (.tup (ph.map frD)) (.lst (pathD ns P)) where
  c1 := check_both_eq h hl
  c2 := check_path_eq ⟨N.ok, hP.pi, hP.ne, hP.st, h4⟩
  u := in_units_eq h
  p := places_of_eq ⟨N.ok, hP.pi, hP.ne, hP.st, h4⟩
section
variable {ns : Nt} {S : List Int} {sc : Int} {P : List Nat} {m : Nat}
/-- every age is one of a turn -/
theorem age_mod (A : Ask ns S sc P m) (i : Int) : ageI ns S sc P m i ∈ agesL ns S sc P m := by
  obtain ⟨n0, n1⟩ := many_pos A
  have per : ∀ (t : Nat) (j : Int), ageI ns S sc P m (j + t * (manyR ns P m : Nat)) = ageI ns S sc P m j := by
    intro t
    induction t with
    | zero => intro j; congr 1; simp
    | succ t ih =>
      intro j
      have e : j + ((t + 1 : Nat) : Int) * (manyR ns P m : Nat) = j + t * (manyR ns P m : Nat) + lcmL (turns ns) / pp ns (atP P m) := by
        rw [← n1, Int.natCast_add, Int.add_mul]
        omega
      rw [e, age_turn A, ih]
  have r0 := Int.emod_nonneg i (show ((manyR ns P m : Nat) : Int) ≠ 0 by omega)
  have r1 := Int.emod_lt_of_pos i (show (0 : Int) < (manyR ns P m : Nat) by omega)
  have e : ageI ns S sc P m i = ageI ns S sc P m (i % (manyR ns P m : Nat)) := by
    have d := Int.mul_ediv_add_emod i (manyR ns P m : Nat)
    rcases Int.le_total 0 (i / (manyR ns P m : Nat)) with q | q
    · obtain ⟨t, ht⟩ := Int.eq_ofNat_of_zero_le q
      have := per t (i % (manyR ns P m : Nat))
      rw [← this]
      congr 1
      rw [← ht, Int.mul_comm]
      omega
    · obtain ⟨t, ht⟩ := Int.eq_ofNat_of_zero_le (show 0 ≤ -(i / (manyR ns P m : Nat)) by omega)
      have := per t i
      rw [← this]
      congr 1
      rw [← ht, Int.neg_mul, Int.mul_comm (i / (manyR ns P m : Nat))]
      omega
  obtain ⟨j, hj⟩ := Int.eq_ofNat_of_zero_le r0
  rw [e, hj]
  exact List.mem_map.mpr ⟨j, List.mem_range.mpr (by omega), rfl⟩
theorem age_sm (A : Ask ns S sc P m) (m4 : m ≤ 4) {b : Nat} {r : Int} (hb : 100 ≤ b) (hr : Sm b r) (h : b + 465 * m ≤ 2000) : Sm 2500 (ageI ns S sc P m r) := by
  have q := (run_carried_eq' A hr hb (by omega)).2.mono (d := 2000) (by omega)
  obtain ⟨a1, a2⟩ := A.place (Nat.le_refl m)
  obtain ⟨b1, b2⟩ := A.place (Nat.zero_le m)
  obtain ⟨s, e1, p1, l1, k1, k2, k3⟩ := A.step a2
  obtain ⟨t, e2, p2, l2, g1, g2, g3⟩ := A.step b2
  obtain ⟨x, e3, x1, x2⟩ := A.start a2
  obtain ⟨y, e4, y1, y2⟩ := A.start b2
  unfold ageI tm
  rw [p1, p2, l1, x1, y1]
  have u1 : Sm 2465 (x + r * s.p * sc) := x2.add' (((hr.mono (d := 2000) (by omega)).mul k2).mul A.bc) (by decide) (by decide)
  have u2 : Sm 2466 (x + r * s.p * sc + s.l * sc) := u1.add' (k3.mul A.bc) (by decide) (by decide)
  have u3 : Sm 2465 (y + carry ns S sc P m r * t.p * sc) := y2.add' ((q.mul g2).mul A.bc) (by decide) (by decide)
  exact u2.sub' u3 (by decide) (by decide)
end
end Toy

set_option Elab.async false
set_option linter.all false
set_option maxRecDepth 100000
set_option maxHeartbeats 8000000
namespace Toy
open PySem PySem.Spec PyProof.Rows L2 VS
/-! delays moved into the starts (for k11): ns' is ns with no delays, S' the starts less what went before -/
section
variable {ns ns' : Nt} {S S' : List Int} {sc : Int} {P : List Nat} {m : Nat} {bf : Nat → Int}
theorem rr_shift (hp : ∀ i, pp ns' i = pp ns i) (hl : ∀ i, ll ns' i = 0) (hs : ∀ i, i ≤ m → ss S' (atP P i) = ss S (atP P i) - bf i * sc) (hb : ∀ k, k + 1 ≤ m → bf (k + 1) = bf k + ll ns (atP P k)) {k : Nat} (hk : k + 1 ≤ m) (x : Int) :
    rr ns' S' sc (atP P (k + 1)) (atP P k) x = rr ns S sc (atP P (k + 1)) (atP P k) x := by
  unfold rr
  rw [hp, hp, hl, hs (k + 1) hk, hs k (by omega), hb k hk, Int.add_mul]
  congr 1
  omega
theorem carry_shift (hp : ∀ i, pp ns' i = pp ns i) (hl : ∀ i, ll ns' i = 0) (hs : ∀ i, i ≤ m → ss S' (atP P i) = ss S (atP P i) - bf i * sc) (hb : ∀ k, k + 1 ≤ m → bf (k + 1) = bf k + ll ns (atP P k)) : ∀ (k : Nat) (x : Int), k ≤ m →
    carry ns' S' sc P k x = carry ns S sc P k x
  | 0, _, _ => rfl
  | k + 1, x, hk => by
    show carry ns' S' sc P k (rr ns' S' sc _ _ x) = carry ns S sc P k (rr ns S sc _ _ x)
    rw [rr_shift hp hl hs hb hk]
    exact carry_shift hp hl hs hb k _ (by omega)
theorem age_shift (hp : ∀ i, pp ns' i = pp ns i) (hl : ∀ i, ll ns' i = 0) (hs : ∀ i, i ≤ m → ss S' (atP P i) = ss S (atP P i) - bf i * sc) (hb : ∀ k, k + 1 ≤ m → bf (k + 1) = bf k + ll ns (atP P k)) (h0 : bf 0 = 0) (x : Int) :
    ageI ns S sc P m x = ageI ns' S' sc P m x + (bf m + ll ns (atP P m)) * sc := by
  unfold ageI
  rw [carry_shift hp hl hs hb m x (Nat.le_refl m)]
  unfold tm
  rw [hp, hp, hl, hs m (Nat.le_refl m), hs 0 (Nat.zero_le m), h0, Int.add_mul]
  omega
end
end Toy

set_option Elab.async false
set_option linter.all false
set_option maxRecDepth 100000
set_option maxHeartbeats 8000000
namespace Toy
open PySem PySem.Spec PyProof.Rows L2 VS
/-! more of a fraction in lowest terms (k11: _law_more; k09: _law_scaled_right) -/
/-- x/g and c/g with k whole ones more: the fraction x + k*c over c -/
theorem lowD_more {x k c : Int} (hc : 0 < c) : lowD (x / gd (ab x) c + k * (c / gd (ab x) c)) (c / gd (ab x) c) = lowD (x + k * c) c := by
  obtain ⟨g, g0, eg, ex, ec, cg⟩ := low_parts (x := x) hc
  rw [eg]
  refine lowD_eq cg hc ?_
  have h : x + k * c = g * (x / g + k * (c / g)) := by
    have e1 : g * (x / g + k * (c / g)) = g * (x / g) + k * (g * (c / g)) := by rw [Int.mul_add, Int.mul_left_comm g k]
    rw [e1, ← ex, ← ec]
  generalize x / g + k * (c / g) = y at *
  rw [h, Int.mul_right_comm g y, ← ec, Int.mul_comm]
/-- x/g times k over c/g -/
theorem lowD_times {x k c : Int} (hc : 0 < c) : lowD (x / gd (ab x) c * k) (c / gd (ab x) c) = lowD (x * k) c := by
  obtain ⟨g, g0, eg, ex, ec, cg⟩ := low_parts (x := x) hc
  rw [eg]
  refine lowD_eq cg hc ?_
  have h : x * k = g * (x / g * k) := by rw [← Int.mul_assoc, ← ex]
  generalize x / g * k = y at *
  rw [h, Int.mul_right_comm g y, ← ec, Int.mul_comm]
end Toy

set_option Elab.async false
set_option linter.all false
set_option maxRecDepth 100000
set_option maxHeartbeats 8000000
namespace Toy
open PySem PySem.Spec PyProof.Rows L2 VS
/-! a turn of a comprehension that changes nothing outside, whatever the slots hold -/
def isM : Sl → Bool
  | .own _ => true
  | .bor _ => true
  | _ => false
theorem restore_pt : ∀ (ρ ρ' : Rho), ρ'.length = ρ.length → (∀ (j : Nat) s, ρ[j]? = some s → isM s = true → ρ'[j]? = some (toB s)) → restore ρ ρ' = some ρ
  | [], [], _, _ => rfl
  | [], _ :: _, h, _ => by cases h
  | _ :: _, [], h, _ => by cases h
  | s :: r, s' :: r', h, hp => by
    have ih := restore_pt r r' (by simpa using h) fun j t ht hm => hp (j + 1) t (by simpa using ht) hm
    have h0 := hp 0 s rfl
    cases s with
    | own xs =>
      have := h0 rfl
      rw [List.getElem?_cons_zero] at this
      cases this
      show (restore r r').map _ = _
      rw [ih]
      rfl
    | bor xs =>
      have := h0 rfl
      rw [List.getElem?_cons_zero] at this
      cases this
      show (restore r r').map _ = _
      rw [ih]
      rfl
    | _ =>
      show (restore r r').map _ = _
      rw [ih]
      rfl
def Kp (ix : List Nat) (ρ ρ' : Rho) : Prop := ρ'.length = ρ.length ∧ ∀ j, j ∉ ix → ρ'[j]? = (ρ[j]?).map toB
theorem kp_blk (ix : List Nat) (ρ : Rho) : Kp ix ρ (blkR ix ρ) := by
  unfold blkR
  refine ⟨by rw [wipeR_length, List.length_map], fun j hj => ?_⟩
  rw [wipeR_get, if_neg hj, List.getElem?_map]
theorem Kp.set {ix : List Nat} {ρ ρ' : Rho} (h : Kp ix ρ ρ') {i : Nat} (hi : i ∈ ix) (x : Sl) : Kp ix ρ (ρ'.set i x) := by
  refine ⟨by rw [List.length_set]; exact h.1, fun j hj => ?_⟩
  rw [List.getElem?_set_ne (show i ≠ j from fun e => hj (e ▸ hi))]
  exact h.2 j hj
theorem Kp.sets {ix : List Nat} {ρ : Rho} : ∀ (is : List Nat) (ds : List D) {ρ' ρ1 : Rho}, Kp ix ρ ρ' → (∀ i ∈ is, i ∈ ix) → sets is ds ρ' = some ρ1 → Kp ix ρ ρ1
  | [], [], ρ', ρ1, h, _, e => by cases e; exact h
  | [], _ :: _, _, _, _, _, e => by cases e
  | _ :: _, [], _, _, _, _, e => by cases e
  | i :: r, d :: ds, ρ', ρ1, h, hi, e => Kp.sets r ds (h.set (hi i List.mem_cons_self) (.val d)) (fun j hj => hi j (List.mem_cons_of_mem _ hj)) e
theorem Kp.tgt {t : Tg} {d : D} {ρ ρ' ρ1 : Rho} (h : Kp t.ix ρ ρ') (e : tgt t d ρ' = some ρ1) : Kp t.ix ρ ρ1 := by
  unfold VS.tgt at e
  split at e
  · cases e
    exact h.set (List.mem_singleton.mpr rfl) _
  · exact h.sets _ _ (fun i hi => hi) e
  · exact (h.set (i := _) List.mem_cons_self _).sets _ _ (fun i hi => List.mem_cons_of_mem _ hi) e
  · cases e
theorem Kp.back {ix : List Nat} {ρ ρ' : Rho} (h : Kp ix ρ ρ') (ok : okT ix ρ = true) : restore ρ ρ' = some ρ :=
  restore_pt ρ ρ' h.1 fun j s hs hm => by
    have nj : j ∉ ix := by
      cases s with
      | own xs => exact okT_no ok (.inl hs)
      | bor xs => exact okT_no ok (.inr hs)
      | _ => cases hm
    rw [h.2 j nj, hs]
    rfl
theorem turn_id {t : Tg} {tt : SB} {e : SE} {d x : D} {ρ ρ1 : Rho} (ok : okT t.ix ρ = true) (h1 : tgt t d (blkR t.ix ρ) = some ρ1) (h2 : tt ρ1 = some (true, ρ1)) (h3 : e ρ1 = some (x, ρ1)) : turnC t tt e d ρ = some (some x, ρ) := by
  have b := ((kp_blk t.ix ρ).tgt h1).back ok
  unfold turnC
  rw [if_pos ok, h1]
  simp only [h2, h3, b, Option.map_some]
theorem turn_no {t : Tg} {tt : SB} {e : SE} {d : D} {ρ ρ1 : Rho} (ok : okT t.ix ρ = true) (h1 : tgt t d (blkR t.ix ρ) = some ρ1) (h2 : tt ρ1 = some (false, ρ1)) : turnC t tt e d ρ = some (none, ρ) := by
  have b := ((kp_blk t.ix ρ).tgt h1).back ok
  unfold turnC
  rw [if_pos ok, h1]
  simp only [h2, b, Option.map_some]
theorem gTup0 : VS.gTup [] = some (.tup []) := by
  unfold VS.gTup
  rw [if_pos (by show 0 ≤ 1000000; decide)]
theorem gL1 {a : D} : gLst [a] = some (.lst [a]) := by
  unfold gLst
  rw [if_pos (by show 1 ≤ 1000000; decide)]
theorem gL2 {a b : D} : gLst [a, b] = some (.lst [a, b]) := by
  unfold gLst
  rw [if_pos (by show 2 ≤ 1000000; decide)]
theorem gL3 {a b c : D} : gLst [a, b, c] = some (.lst [a, b, c]) := by
  unfold gLst
  rw [if_pos (by show 3 ≤ 1000000; decide)]
theorem cut_one {xs : List D} {j : Nat} {x : D} (h : xs[j]? = some x) : VS.cutD xs (some (j : Int)) (some ((j + 1 : Nat) : Int)) = [x] := by
  have hj : j < xs.length := (List.getElem?_eq_some_iff.mp h).1
  have hx : xs[j] = x := (List.getElem?_eq_some_iff.mp h).2
  unfold VS.cutD
  rw [HT.sIx_nat, HT.sIx_nat, Nat.min_eq_left (by omega), Nat.min_eq_left (by omega), Nat.add_sub_cancel_left, List.drop_eq_getElem_cons hj, hx]
  rfl
theorem gNe_pd {d : D} {x : PyData} (h1 : scalE d d = none) (h2 : toP d = some x) (h3 : SeqAt.shaped x = true) (h4 : PyData.eqv x x = true) : gNe d d = some (.bl false) := by
  unfold gNe eqD
  rw [h1]
  simp only [h2, h3, h4, and_self, if_true]
  rfl
theorem ne_low {a b : Int} : gNe (lowD a b) (lowD a b) = some (.bl false) := gNe_pd rfl rfl rfl (by simp [PyData.eqv, PyData.eqvAll])
theorem ne_low2 {a b c d : Int} : gNe (.tup [lowD a b, lowD c d]) (.tup [lowD a b, lowD c d]) = some (.bl false) := gNe_pd rfl rfl rfl (by simp [PyData.eqv, PyData.eqvAll])
theorem ne_int {a : Int} : gNe (.int a) (.int a) = some (.bl false) := by rw [gNe_int]; simp
theorem kOwnC_to' {i n : Nat} {m : MirM} {a : SA} {ρ ρ1 ρ2 : Rho} {xs ys : List D} (h : a ρ = some (xs, ρ1)) (hn : xs.length = n) (hm : m (xs.map .val) = some ys) (h2 : ρ1.set i (.own ys) = ρ2) : kOwnC i n m a ρ = some (.nx, ρ2) := by
  unfold kOwnC
  rw [h]
  simp only [hn, if_true, hm, h2]
theorem iR_const {j : Int} {n : Nat} (e : j = (n : Nat)) (hn : n ≤ 1000) {ρ : Rho} : iR (aC (sK (.int j)) aN) ρ = some ((List.range' 0 n).map fun j => .int (j : Nat), ρ) := by
  subst e
  exact iR_len (aC_of rfl rfl) (by omega)
theorem bNot_of {t : SB} {ρ ρ1 : Rho} {b : Bool} (h : t ρ = some (b, ρ1)) : bNot t ρ = some (!b, ρ1) := by
  unfold bNot
  rw [h]
theorem bNot_t {t : SB} {ρ ρ1 : Rho} (h : t ρ = some (true, ρ1)) : bNot t ρ = some (false, ρ1) := bNot_of h
theorem kPar3E_of {i j l : Nat} {e : SE} {ρ ρ1 ρ2 : Rho} {d : D} (h : e ρ = some (d, ρ1)) (h2 : ((ρ1.set i (.val d)).set j (.own [])).set l (.own []) = ρ2) : kPar3E i j l e ρ = some (.nx, ρ2) := by
  unfold kPar3E
  rw [h]
  simp only [h2]
theorem ends {ns : Nt} {S : List Int} {sc : Int} {P : List Nat} {m : Nat} (A : Ask ns S sc P m) (m4 : m ≤ 4) : ∃ lo hi, lo ∈ agesL ns S sc P m ∧ hi ∈ agesL ns S sc P m ∧ (∀ x ∈ agesL ns S sc P m, lo ≤ x ∧ x ≤ hi) ∧ Sm 2500 lo ∧ Sm 2500 hi ∧ (∃ i, lo = ageI ns S sc P m i) ∧ ∃ i, hi = ageI ns S sc P m i := by
  have ne : agesL ns S sc P m ≠ [] := List.ne_nil_of_mem (age_mod A 0)
  obtain ⟨lo, hi, _, _, _, _, m1, m2, m3⟩ := isort_ends ne
  have mem : ∀ x ∈ agesL ns S sc P m, Sm 2500 x ∧ ∃ i, x = ageI ns S sc P m i := fun x hx => by
    obtain ⟨j, hj, rfl⟩ := List.mem_map.mp hx
    have jl := List.mem_range.mp hj
    have mn : manyR ns P m ≤ 100000 := (A.many (Nat.le_refl m)).2
    have s1 := (A.srcSm (i := j + 1) (by omega)).2
    rw [show (-1 : Int) + ((j + 1 : Nat) : Int) = (j : Nat) by omega] at s1
    exact ⟨age_sm A m4 (Nat.le_refl 100) s1 (by omega), j, rfl⟩
  exact ⟨lo, hi, m1, m2, m3, (mem lo m1).1, (mem hi m2).1, (mem lo m1).2, (mem hi m2).2⟩
end Toy

set_option Elab.async false
set_option linter.all false
set_option maxRecDepth 100000
set_option maxHeartbeats 8000000
namespace Toy
open PySem PySem.Spec PyProof.Rows L2 VS
/-! a common multiple, whatever the order -/
theorem lc1_least {f n c : Int} (hf : 0 < f) (hn : 0 < n) (h1 : f ∣ c) (h2 : n ∣ c) : lc1 f n ∣ c := by
  have g0 := gd_pos (a := f) hn
  have e1 : lc1 f n * gd f n = f * n := by
    unfold lc1
    rw [Int.mul_right_comm, Int.ediv_mul_cancel (gd_dvd_l f n)]
  have e2 : (gd f n) * ((Int.lcm f n : Nat) : Int) = f * n := by
    unfold gd
    rw [← Int.natCast_mul, Int.gcd_mul_lcm, Int.natCast_mul, show ((f.natAbs : Nat) : Int) = f by omega, show ((n.natAbs : Nat) : Int) = n by omega]
  have e3 : lc1 f n = ((Int.lcm f n : Nat) : Int) := by
    refine Int.eq_of_mul_eq_mul_right (show gd f n ≠ 0 by omega) ?_
    rw [e1, ← e2, Int.mul_comm]
  rw [e3]
  exact Int.coe_lcm_dvd h1 h2
theorem lcmF_least {c : Int} : ∀ {ns : List Int} {f : Int}, 0 < f → (∀ n ∈ ns, 0 < n) → f ∣ c → (∀ n ∈ ns, n ∣ c) → lcmF f ns ∣ c
  | [], _, _, _, h, _ => h
  | n :: r, f, hf, hn, h1, h2 => lcmF_least (ns := r) (lc1_pos hf (hn n List.mem_cons_self)) (fun m hm => hn m (List.mem_cons_of_mem _ hm)) (lc1_least hf (hn n List.mem_cons_self) h1 (h2 n List.mem_cons_self)) fun m hm => h2 m (List.mem_cons_of_mem _ hm)
theorem lcmL_dvd {a b : List Int} (pa : ∀ n ∈ a, 0 < n) (h : ∀ n ∈ a, n ∈ b) : lcmL a ∣ lcmL b :=
  lcmF_least (by decide) pa (Int.one_dvd _) fun n hn => lcmF_mem (h n hn)
theorem lcmL_same {a b : List Int} (pa : ∀ n ∈ a, 0 < n) (h1 : ∀ n ∈ a, n ∈ b) (h2 : ∀ n ∈ b, n ∈ a) : lcmL a = lcmL b := by
  have pb : ∀ n ∈ b, 0 < n := fun n hn => pa n (h2 n hn)
  have qa : 0 < lcmL a := lcmF_pos (by decide) pa
  have qb : 0 < lcmL b := lcmF_pos (by decide) pb
  exact Int.dvd_antisymm (Int.le_of_lt qa) (Int.le_of_lt qb) (lcmL_dvd pa h1) (lcmL_dvd pb h2)
/-! counting the steps of a function that goes up, and of its other side -/
section
variable {f G : Int → Int} {M K : Nat}
theorem adj_fix (adj : ∀ q r, q ≤ f r ↔ G q ≤ r) {r : Int} (h : f (r - 1) < f r) : G (f r) = r := by
  have h1 := (adj (f r) r).mp (Int.le_refl _)
  have h2 : ¬ G (f r) ≤ r - 1 := fun z => by
    have := (adj (f r) (r - 1)).mpr z
    omega
  omega
theorem adj_next (adj : ∀ q r, q ≤ f r ↔ G q ≤ r) (r : Int) : r + 1 ≤ G (f r + 1) := by
  have h2 : ¬ G (f r + 1) ≤ r := fun z => by
    have := (adj (f r + 1) r).mpr z
    omega
  omega
theorem adj_per (adj : ∀ q r, q ≤ f r ↔ G q ≤ r) (per : ∀ r, f (r + M) = f r + K) (q : Int) : G (q + K) = G q + M := by
  have h : ∀ r, G (q + K) ≤ r ↔ G q + M ≤ r := fun r => by
    have p := per (r - M)
    rw [Int.sub_add_cancel] at p
    have a1 := adj (q + K) r
    have a2 := adj q (r - M)
    constructor
    · intro z
      have := a1.mpr z
      have := a2.mp (by omega)
      omega
    · intro z
      have := a2.mpr (by omega)
      exact a1.mp (by omega)
  have h1 := (h (G q + M)).mpr (Int.le_refl _)
  have h2 := (h (G (q + K))).mp (Int.le_refl _)
  omega
theorem adj_pers (adj : ∀ q r, q ≤ f r ↔ G q ≤ r) (per : ∀ r, f (r + M) = f r + K) (q t : Int) : G (q + t * K) = G q + t * M := by
  have up : ∀ (t : Nat) (q : Int), G (q + (t : Nat) * K) = G q + (t : Nat) * M := by
    intro t
    induction t with
    | zero => intro q; simp
    | succ t ih =>
      intro q
      have e : q + ((t + 1 : Nat) : Int) * K = q + (t : Nat) * K + K := by rw [Int.natCast_add, Int.add_mul]; omega
      rw [e, adj_per adj per, ih, Int.natCast_add, Int.add_mul]
      omega
  rcases Int.le_total 0 t with h | h
  · obtain ⟨n, rfl⟩ := Int.eq_ofNat_of_zero_le h
    exact up n q
  · obtain ⟨n, hn⟩ := Int.eq_ofNat_of_zero_le (show 0 ≤ -t by omega)
    have := up n (q + t * K)
    rw [← hn, Int.neg_mul, Int.neg_mul] at this
    have e : q + t * K + -(t * K) = q := by omega
    rw [e] at this
    omega
theorem cnt_le (adj : ∀ q r, q ≤ f r ↔ G q ≤ r) (per : ∀ r, f (r + M) = f r + K) (M0 : 0 < M) (K0 : 0 < K) :
    ((List.range M).filter fun i => decide (f (-1 + (i : Nat)) < f (-1 + ((i + 1 : Nat) : Int)))).length ≤ ((List.range K).filter fun j => decide (-(G (-(-1 + (j : Nat)))) < -(G (-(-1 + ((j + 1 : Nat) : Int)))))).length := by
  have sub : ∀ i ∈ (List.range M).filter fun i => decide (f (-1 + (i : Nat)) < f (-1 + ((i + 1 : Nat) : Int))), i < M ∧ f ((i : Int) - 1) < f (i : Int) := fun i hi => by
    obtain ⟨h1, h2⟩ := List.mem_filter.mp hi
    have h3 := of_decide_eq_true h2
    rw [show (-1 : Int) + ((i + 1 : Nat) : Int) = (i : Int) by omega, show (-1 : Int) + (i : Nat) = (i : Int) - 1 by omega] at h3
    exact ⟨List.mem_range.mp h1, h3⟩
  have key : ∀ i : Nat, f ((i : Int) - 1) < f (i : Int) → ∃ j : Nat, ((-(f (i : Int))) % K).toNat = j ∧ j < K ∧ (∃ t : Int, -(j : Int) = f (i : Int) + t * K) ∧ -(G (-(-1 + (j : Nat)))) < -(G (-(-1 + ((j + 1 : Nat) : Int)))) := fun i hi => by
    have r0 := Int.emod_nonneg (-(f (i : Int))) (show (K : Int) ≠ 0 by omega)
    have r1 := Int.emod_lt_of_pos (-(f (i : Int))) (show (0 : Int) < K by omega)
    have d := Int.mul_ediv_add_emod (-(f (i : Int))) K
    have ej : (((-(f (i : Int))) % K).toNat : Int) = (-(f (i : Int))) % K := Int.toNat_of_nonneg r0
    have et : -((((-(f (i : Int))) % K).toNat : Nat) : Int) = f (i : Int) + ((-(f (i : Int))) / K) * K := by
      rw [Int.mul_comm] at d
      omega
    refine ⟨_, rfl, by omega, ⟨(-(f (i : Int))) / K, et⟩, ?_⟩
    generalize ((-(f (i : Int))) % K).toNat = j at *
    generalize (-(f (i : Int))) / K = t at *
    have a1 : G (-(-1 + ((j + 1 : Nat) : Int))) = (i : Int) + t * M := by
      rw [show -((-1 : Int) + ((j + 1 : Nat) : Int)) = -(j : Int) by omega, et, adj_pers adj per, adj_fix adj hi]
    have a2 : (i : Int) + 1 + t * M ≤ G (-(-1 + (j : Nat))) := by
      rw [show -((-1 : Int) + (j : Nat)) = f (i : Int) + 1 + t * K by omega, adj_pers adj per]
      have := adj_next adj (i : Int)
      omega
    omega
  have nd : (((List.range M).filter fun i => decide (f (-1 + (i : Nat)) < f (-1 + ((i + 1 : Nat) : Int)))).map fun i : Nat => ((-(f (i : Int))) % K).toNat).Nodup := by
    unfold List.Nodup
    rw [List.pairwise_map]
    have n0 : ((List.range M).filter fun i => decide (f (-1 + (i : Nat)) < f (-1 + ((i + 1 : Nat) : Int)))).Nodup := List.Nodup.sublist List.filter_sublist List.nodup_range
    refine List.Pairwise.imp_of_mem (fun {a b} ha hb ne z => ?_) n0
    obtain ⟨a1, a2⟩ := sub a ha
    obtain ⟨b1, b2⟩ := sub b hb
    obtain ⟨j, e1, _, ⟨t, et⟩, _⟩ := key a a2
    obtain ⟨k, e2, _, ⟨u, eu⟩, _⟩ := key b b2
    have jk : j = k := by rw [← e1, ← e2]; exact z
    subst jk
    have g1 := adj_pers adj per (f (a : Int)) t
    have g2 := adj_pers adj per (f (b : Int)) u
    rw [← et, adj_fix adj a2] at g1
    rw [← eu, adj_fix adj b2, g1] at g2
    have m1 : ((a : Int) + t * M) % M = (a : Int) % M := Int.add_mul_emod_self_right _ _ _
    have m2 : ((b : Int) + u * M) % M = (b : Int) % M := Int.add_mul_emod_self_right _ _ _
    rw [g2, m2, Int.emod_eq_of_lt (by omega) (by omega), Int.emod_eq_of_lt (by omega) (by omega)] at m1
    exact ne (by omega)
  have le := List.Nodup.length_le_of_subset nd (l₂ := (List.range K).filter fun j => decide (-(G (-(-1 + (j : Nat)))) < -(G (-(-1 + ((j + 1 : Nat) : Int)))))) fun j hj => by
    obtain ⟨i, hi, rfl⟩ := List.mem_map.mp hj
    obtain ⟨i1, i2⟩ := sub i hi
    obtain ⟨j, e1, e2, _, e4⟩ := key i i2
    show ((-(f (i : Int))) % K).toNat ∈ _
    rw [e1]
    exact List.mem_filter.mpr ⟨List.mem_range.mpr e2, decide_eq_true e4⟩
  rw [List.length_map] at le
  exact le
theorem cnt_eq (adj : ∀ q r, q ≤ f r ↔ G q ≤ r) (per : ∀ r, f (r + M) = f r + K) (M0 : 0 < M) (K0 : 0 < K) :
    ((List.range M).filter fun i => decide (f (-1 + (i : Nat)) < f (-1 + ((i + 1 : Nat) : Int)))).length = ((List.range K).filter fun j => decide (-(G (-(-1 + (j : Nat)))) < -(G (-(-1 + ((j + 1 : Nat) : Int)))))).length := by
  refine Nat.le_antisymm (cnt_le adj per M0 K0) ?_
  have q := cnt_le (f := fun j => -(G (-j))) (G := fun q => -(f (-q))) (M := K) (K := M) (fun q r => ?_) (fun r => ?_) K0 M0
  · simp only [Int.neg_neg] at q
    exact q
  · have a := adj (-r) (-q)
    constructor
    · intro z
      have := a.mpr (by omega)
      omega
    · intro z
      have := a.mp (by omega)
      omega
  · have := adj_pers adj per (-r) (-1)
    show -(G (-(r + K))) = -(G (-r)) + M
    rw [show -(r + (K : Int)) = -r + -1 * K by omega, this]
    omega
end
/-! a row without delays, and the row turned about -/
def cD (ns : Nt) (S : List Int) (sc : Int) : Nat → Int → Int
  | 0, r => r
  | k + 1, r => cD ns S sc k (rr ns S sc (k + 1) k r)
theorem atP_rng {n i : Nat} (h : i < n) : atP (List.range n) i = i := by
  unfold atP
  rw [List.getElem?_range h]
  rfl
theorem carry_rng {ns : Nt} {S : List Int} {sc : Int} {n : Nat} : ∀ (k : Nat) (x : Int), k < n → carry ns S sc (List.range n) k x = cD ns S sc k x
  | 0, _, _ => rfl
  | k + 1, x, h => by
    show carry ns S sc (List.range n) k (rr ns S sc (atP (List.range n) (k + 1)) (atP (List.range n) k) x) = cD ns S sc k (rr ns S sc (k + 1) k x)
    rw [atP_rng h, atP_rng (by omega)]
    exact carry_rng k _ (by omega)
def cc (ns : Nt) (S : List Int) (sc : Int) (k : Nat) (q : Int) : Int := -((ss S (k + 1) - ss S k + (-q) * pp ns k * sc) / (pp ns (k + 1) * sc))
def upG (ns : Nt) (S : List Int) (sc : Int) : Nat → Int → Int
  | 0, q => q
  | k + 1, q => cc ns S sc k (upG ns S sc k q)
structure Turned (ns ns' : Nt) (S S' : List Int) (sc : Int) (m : Nat) : Prop where
  p0 : ∀ i, i ≤ m → 0 < pp ns i
  c0 : 0 < sc
  l0 : ∀ i, i ≤ m → ll ns i = 0
  l1 : ∀ i, i ≤ m → ll ns' i = 0
  pe : ∀ i, i ≤ m → pp ns' i = pp ns (m - i)
  se : ∀ i, i ≤ m → ss S' i = -(ss S (m - i))
section
variable {ns ns' : Nt} {S S' : List Int} {sc : Int} {m : Nat}
theorem Turned.one (T : Turned ns ns' S S' sc m) {k : Nat} (hk : k + 1 ≤ m) (q r : Int) : q ≤ rr ns S sc (k + 1) k r ↔ cc ns S sc k q ≤ r := by
  have b0 : 0 < pp ns k * sc := Int.mul_pos (T.p0 k (by omega)) T.c0
  have b1 : 0 < pp ns (k + 1) * sc := Int.mul_pos (T.p0 (k + 1) hk) T.c0
  unfold rr cc
  rw [T.l0 k (by omega), Int.zero_mul, Int.le_ediv_iff_mul_le b0]
  have h2 : -((ss S (k + 1) - ss S k + (-q) * pp ns k * sc) / (pp ns (k + 1) * sc)) ≤ r ↔ -r ≤ (ss S (k + 1) - ss S k + (-q) * pp ns k * sc) / (pp ns (k + 1) * sc) := by omega
  rw [h2, Int.le_ediv_iff_mul_le b1, Int.neg_mul, Int.neg_mul, Int.neg_mul, Int.mul_assoc q, Int.mul_assoc r]
  omega
theorem Turned.adj (T : Turned ns ns' S S' sc m) : ∀ (k : Nat) (q r : Int), k ≤ m → (q ≤ cD ns S sc k r ↔ upG ns S sc k q ≤ r)
  | 0, _, _, _ => Iff.rfl
  | k + 1, q, r, hk => by
    show q ≤ cD ns S sc k (rr ns S sc (k + 1) k r) ↔ cc ns S sc k (upG ns S sc k q) ≤ r
    rw [Turned.adj T k q _ (by omega), T.one hk]
theorem Turned.back (T : Turned ns ns' S S' sc m) (q : Int) : ∀ k : Nat, k ≤ m → cD ns' S' sc m (-q) = cD ns' S' sc (m - k) (-(upG ns S sc k q))
  | 0, _ => rfl
  | k + 1, hk => by
    rw [Turned.back T q k (by omega)]
    obtain ⟨j, hj⟩ : ∃ j, m - k = j + 1 := ⟨m - k - 1, by omega⟩
    rw [hj, show m - (k + 1) = j by omega]
    show cD ns' S' sc j (rr ns' S' sc (j + 1) j _) = cD ns' S' sc j (-(cc ns S sc k (upG ns S sc k q)))
    congr 1
    unfold rr cc
    rw [Int.neg_neg, T.l1 j (by omega), T.pe j (by omega), T.pe (j + 1) (by omega), T.se j (by omega), T.se (j + 1) (by omega), show m - (j + 1) = k by omega, show m - j = k + 1 by omega]
    congr 1
    omega
theorem Turned.rev (T : Turned ns ns' S S' sc m) (q : Int) : cD ns' S' sc m (-q) = -(upG ns S sc m q) := by
  have h := T.back q m (Nat.le_refl m)
  rw [Nat.sub_self] at h
  exact h
theorem Turned.rev' (T : Turned ns ns' S S' sc m) (j : Int) : cD ns' S' sc m j = -(upG ns S sc m (-j)) := by
  have h := T.rev (-j)
  rw [Int.neg_neg] at h
  exact h
/-- the age of a run, and of the run of the other row -/
theorem Turned.age (T : Turned ns ns' S S' sc m) (r : Int) : ageI ns S sc (List.range (m + 1)) m r = ss S m + r * pp ns m * sc - (ss S 0 + cD ns S sc m r * pp ns 0 * sc) := by
  unfold ageI tm
  rw [carry_rng m r (by omega), atP_rng (show m < m + 1 by omega), atP_rng (show 0 < m + 1 by omega), T.l0 m (Nat.le_refl m)]
  omega
theorem Turned.age' (T : Turned ns ns' S S' sc m) (q : Int) : ageI ns' S' sc (List.range (m + 1)) m (-q) = ss S m + upG ns S sc m q * pp ns m * sc - (ss S 0 + q * pp ns 0 * sc) := by
  unfold ageI tm
  rw [carry_rng m _ (by omega), atP_rng (show m < m + 1 by omega), atP_rng (show 0 < m + 1 by omega), T.l1 m (Nat.le_refl m), T.rev q, T.pe m (Nat.le_refl m), T.pe 0 (Nat.zero_le m), T.se m (Nat.le_refl m), T.se 0 (Nat.zero_le m), Nat.sub_self, Nat.sub_zero, Int.neg_mul, Int.neg_mul, Int.neg_mul, Int.neg_mul]
  omega
theorem Turned.up (T : Turned ns ns' S S' sc m) (r : Int) : ageI ns S sc (List.range (m + 1)) m r + pp ns m * sc ≤ ageI ns' S' sc (List.range (m + 1)) m (-(cD ns S sc m r + 1)) + pp ns 0 * sc := by
  have b1 : 0 < pp ns m * sc := Int.mul_pos (T.p0 m (Nat.le_refl m)) T.c0
  have h := adj_next (f := cD ns S sc m) (G := upG ns S sc m) (fun q r => T.adj m q r (Nat.le_refl m)) r
  rw [T.age, T.age']
  generalize upG ns S sc m (cD ns S sc m r + 1) = g at *
  have h1 : (r + 1) * (pp ns m * sc) ≤ g * (pp ns m * sc) := Int.mul_le_mul_of_nonneg_right h (Int.le_of_lt b1)
  rw [Int.add_mul, Int.one_mul] at h1
  rw [Int.mul_assoc, Int.mul_assoc, Int.mul_assoc, Int.mul_assoc, Int.add_mul, Int.one_mul]
  omega
theorem Turned.dn (T : Turned ns ns' S S' sc m) (q : Int) : ageI ns' S' sc (List.range (m + 1)) m (-q) + pp ns 0 * sc ≤ ageI ns S sc (List.range (m + 1)) m (upG ns S sc m q - 1) + pp ns m * sc := by
  have b0 : 0 < pp ns 0 * sc := Int.mul_pos (T.p0 0 (Nat.zero_le m)) T.c0
  have h : cD ns S sc m (upG ns S sc m q - 1) ≤ q - 1 := by
    have z : ¬ q ≤ cD ns S sc m (upG ns S sc m q - 1) := fun z => by
      have := (T.adj m q _ (Nat.le_refl m)).mp z
      omega
    omega
  rw [T.age, T.age']
  generalize upG ns S sc m q = g at *
  have h1 : cD ns S sc m (g - 1) * (pp ns 0 * sc) ≤ (q - 1) * (pp ns 0 * sc) := Int.mul_le_mul_of_nonneg_right h (Int.le_of_lt b0)
  rw [Int.sub_mul, Int.one_mul] at h1
  rw [Int.mul_assoc, Int.mul_assoc, Int.mul_assoc, Int.mul_assoc, Int.sub_mul, Int.one_mul]
  omega
theorem Turned.tops (T : Turned ns ns' S S' sc m) (A : Ask ns S sc (List.range (m + 1)) m) (A' : Ask ns' S' sc (List.range (m + 1)) m) {hi hi' : Int} (h1 : hi ∈ agesL ns S sc (List.range (m + 1)) m) (h2 : ∀ x ∈ agesL ns S sc (List.range (m + 1)) m, x ≤ hi)
    (k1 : hi' ∈ agesL ns' S' sc (List.range (m + 1)) m) (k2 : ∀ x ∈ agesL ns' S' sc (List.range (m + 1)) m, x ≤ hi') : hi + pp ns m * sc = hi' + pp ns 0 * sc := by
  obtain ⟨i, _, e1⟩ := List.mem_map.mp h1
  obtain ⟨j, _, e2⟩ := List.mem_map.mp k1
  have e1' : hi = ageI ns S sc (List.range (m + 1)) m (i : Nat) := e1.symm
  have e2' : hi' = ageI ns' S' sc (List.range (m + 1)) m (-(-((j : Nat) : Int))) := by rw [Int.neg_neg]; exact e2.symm
  have u := T.up (i : Nat)
  have d := T.dn (-((j : Nat) : Int))
  have u2 := k2 _ (age_mod A' (-(cD ns S sc m (i : Nat) + 1)))
  have d2 := h2 _ (age_mod A (upG ns S sc m (-((j : Nat) : Int)) - 1))
  rw [← e1'] at u
  rw [← e2'] at d
  omega
theorem Turned.used (T : Turned ns ns' S S' sc m) (A : Ask ns S sc (List.range (m + 1)) m) (A' : Ask ns' S' sc (List.range (m + 1)) m) (ht : lcmL (turns ns') = lcmL (turns ns)) : usedN ns S sc (List.range (m + 1)) m = usedN ns' S' sc (List.range (m + 1)) m := by
  obtain ⟨n0, n1⟩ := many_pos A
  obtain ⟨k0, k1⟩ := many_pos A'
  rw [atP_rng (show m < m + 1 by omega)] at n1 k1
  rw [ht, T.pe m (Nat.le_refl m), Nat.sub_self] at k1
  have per : ∀ r, cD ns S sc m (r + (manyR ns (List.range (m + 1)) m : Nat)) = cD ns S sc m r + (manyR ns' (List.range (m + 1)) m : Nat) := fun r => by
    have h := carry_turn A m r (Nat.le_refl m)
    rw [carry_rng m _ (by omega), carry_rng m _ (by omega), atP_rng (show m < m + 1 by omega), atP_rng (show 0 < m + 1 by omega)] at h
    rw [n1, k1]
    exact h
  have q := cnt_eq (fun q r => T.adj m q r (Nat.le_refl m)) per n0 k0
  unfold usedN
  have f1 : (fun i : Nat => decide (inc ns S sc (List.range (m + 1)) m i)) = fun i : Nat => decide (cD ns S sc m (-1 + (i : Nat)) < cD ns S sc m (-1 + ((i + 1 : Nat) : Int))) := by
    funext i
    congr 1
    unfold inc
    rw [carry_rng m _ (by omega), carry_rng m _ (by omega)]
  have f2 : (fun i : Nat => decide (inc ns' S' sc (List.range (m + 1)) m i)) = fun i : Nat => decide (-(upG ns S sc m (-(-1 + (i : Nat)))) < -(upG ns S sc m (-(-1 + ((i + 1 : Nat) : Int))))) := by
    funext i
    congr 1
    unfold inc
    rw [carry_rng m _ (by omega), carry_rng m _ (by omega), T.rev', T.rev']
  rw [f1, f2]
  exact q
end
end Toy

set_option Elab.async false
set_option linter.all false
set_option maxRecDepth 100000
set_option maxHeartbeats 8000000
namespace Toy
open PySem PySem.Spec PyProof.Rows L2 VS
/-! repr of what the questions answer -/
theorem gRep_of {d : D} {x : PyData} (hk : okRepr d = true) (hx : toP d = some x) (h1 : x.showable = true) (h2 : x.hasDict = false) (h3 : x.depth ≤ 50) (h4 : x.shown.length ≤ LN) : gRep [d] = some (.str x.shown) := by
  show (if okRepr d = true then gRepr [d] else none) = _
  rw [if_pos hk]
  simp only [gRepr, hx]
  rw [if_pos ⟨h1, h2, h3, h4⟩]
theorem log_of {i : Int} (h : Sm 1900 i) : i.natAbs.log2 < 1920 := by
  unfold Sm at h
  by_cases z : i.natAbs = 0
  · rw [z]; decide
  · exact Nat.lt_trans ((Nat.log2_lt z).mpr h) (by decide)
theorem shown_int {i : Int} (h : Sm 1900 i) : (PyData.shown (.int i)).length ≤ 1921 := by
  have := PyProof.Rows.int_text_len_1921 (log_of h)
  simpa only [PyData.shown] using this
theorem rep_int {i : Int} (h : Sm 1900 i) : ∃ z, gRep [.int i] = some (.str z) := by
  refine ⟨_, gRep_of (x := .int i) rfl rfl (by simp only [PyData.showable]; exact decide_eq_true (log_of h)) (by simp only [PyData.hasDict]) (by simp only [PyData.depth]; decide) (Nat.le_trans (shown_int h) (by decide))⟩
theorem rep_pair {a b : Int} (ha : Sm 1900 a) (hb : Sm 1900 b) : ∃ z, gRep [.tup [.int a, .int b]] = some (.str z) := by
  have l := tupleText_len_le [PyData.shown (.int a), PyData.shown (.int b)]
  simp only [List.map_cons, List.map_nil, List.sum_cons, List.sum_nil, List.length_cons, List.length_nil] at l
  have l1 := shown_int ha
  have l2 := shown_int hb
  refine ⟨_, gRep_of (x := .tuple [.int a, .int b]) rfl rfl ?_ ?_ ?_ ?_⟩
  · simp only [PyData.showable, PyData.showableAll, Bool.and_true, Bool.and_eq_true, decide_eq_true_eq]
    exact ⟨log_of ha, log_of hb⟩
  · simp only [PyData.hasDict, PyData.hasDictAll, Bool.or_false]
  · simp only [PyData.depth, PyData.depthAll]
    decide
  · have e : PyData.shown (.tuple [.int a, .int b]) = tupleText [PyData.shown (.int a), PyData.shown (.int b)] := by simp only [PyData.shown, PyData.shownAll]
    rw [e]
    exact Nat.le_trans l (Nat.le_trans (by omega : _ ≤ 10000) (by decide))
theorem rep_low {x c : Int} (hc : 0 < c) (hx : Sm 1890 x) (sc : Sm 1890 c) : ∃ z, gRep [lowD x c] = some (.str z) := by
  have g0 := gd_pos (a := ab x) hc
  exact rep_pair ((hx.div g0).mono (by decide)) ((q_sm hc sc g0).mono (by decide))
theorem rep_four {a b c d : Int} (ha : Sm 1900 a) (hb : Sm 1900 b) (hc : Sm 1900 c) (hd : Sm 1900 d) : ∃ z, gRep [.tup [.int a, .int b, .int c, .int d]] = some (.str z) := by
  have l := tupleText_len_le [PyData.shown (.int a), PyData.shown (.int b), PyData.shown (.int c), PyData.shown (.int d)]
  simp only [List.map_cons, List.map_nil, List.sum_cons, List.sum_nil, List.length_cons, List.length_nil] at l
  have l1 := shown_int ha
  have l2 := shown_int hb
  have l3 := shown_int hc
  have l4 := shown_int hd
  refine ⟨_, gRep_of (x := .tuple [.int a, .int b, .int c, .int d]) rfl rfl ?_ ?_ ?_ ?_⟩
  · simp only [PyData.showable, PyData.showableAll, Bool.and_true, Bool.and_eq_true, decide_eq_true_eq]
    exact ⟨log_of ha, log_of hb, log_of hc, log_of hd⟩
  · simp only [PyData.hasDict, PyData.hasDictAll, Bool.or_false]
  · simp only [PyData.depth, PyData.depthAll]
    decide
  · have e : PyData.shown (.tuple [.int a, .int b, .int c, .int d]) = tupleText [PyData.shown (.int a), PyData.shown (.int b), PyData.shown (.int c), PyData.shown (.int d)] := by simp only [PyData.shown, PyData.shownAll]
    rw [e]
    exact Nat.le_trans l (Nat.le_trans (by omega : _ ≤ 10000) (by decide))
theorem rep_lows {x y c : Int} (hc : 0 < c) (hx : Sm 1890 x) (hy : Sm 1890 y) (sc : Sm 1890 c) : ∃ z, gRep [.tup [lowD x c, lowD y c]] = some (.str z) := by
  have g0 := gd_pos (a := ab x) hc
  have g1 := gd_pos (a := ab y) hc
  have s1 : Sm 1900 (x / gd (ab x) c) := (hx.div g0).mono (by decide)
  have s2 : Sm 1900 (c / gd (ab x) c) := (q_sm hc sc g0).mono (by decide)
  have s3 : Sm 1900 (y / gd (ab y) c) := (hy.div g1).mono (by decide)
  have s4 : Sm 1900 (c / gd (ab y) c) := (q_sm hc sc g1).mono (by decide)
  unfold lowD
  generalize x / gd (ab x) c = a at *
  generalize c / gd (ab x) c = b at *
  generalize y / gd (ab y) c = p at *
  generalize c / gd (ab y) c = q at *
  have l1 := tupleText_len_le [PyData.shown (.int a), PyData.shown (.int b)]
  have l2 := tupleText_len_le [PyData.shown (.int p), PyData.shown (.int q)]
  have l := tupleText_len_le [tupleText [PyData.shown (.int a), PyData.shown (.int b)], tupleText [PyData.shown (.int p), PyData.shown (.int q)]]
  simp only [List.map_cons, List.map_nil, List.sum_cons, List.sum_nil, List.length_cons, List.length_nil] at l l1 l2
  have k1 := shown_int s1
  have k2 := shown_int s2
  have k3 := shown_int s3
  have k4 := shown_int s4
  refine ⟨_, gRep_of (x := .tuple [.tuple [.int a, .int b], .tuple [.int p, .int q]]) rfl rfl ?_ ?_ ?_ ?_⟩
  · simp only [PyData.showable, PyData.showableAll, Bool.and_true, Bool.and_eq_true, decide_eq_true_eq]
    exact ⟨⟨log_of s1, log_of s2⟩, log_of s3, log_of s4⟩
  · simp only [PyData.hasDict, PyData.hasDictAll, Bool.or_false]
  · simp only [PyData.depth, PyData.depthAll]
    decide
  · have e : PyData.shown (.tuple [.tuple [.int a, .int b], .tuple [.int p, .int q]]) = tupleText [tupleText [PyData.shown (.int a), PyData.shown (.int b)], tupleText [PyData.shown (.int p), PyData.shown (.int q)]] := by simp only [PyData.shown, PyData.shownAll]
    rw [e]
    exact Nat.le_trans l (Nat.le_trans (by omega : _ ≤ 20000) (by decide))
theorem ne_str {x : Str} : gNe (.str x) (.str x) = some (.bl false) := by
  show some (D.bl (!decide (x = x))) = _
  simp
theorem eq_str {x : Str} : gEq (.str x) (.str x) = some (.bl true) := by
  show some (D.bl (decide (x = x))) = _
  simp
/-- a net, asked (not by a path) -/
structure OkN (ns : Nt) : Prop where
  ok : NtOk ns
  st : Steps ns
  lc : lcmL (turns ns) ≤ 100000
theorem DrNet.okN {ns : Nt} (N : DrNet ns) : OkN ns := ⟨N.ok, N.st, by have := N.lc; omega⟩
theorem iTupl_of {e : SE} {ρ ρ1 : Rho} {xs : List D} (h : e ρ = some (.tup xs, ρ1)) : iTupl e ρ = some (xs, ρ1) := by
  unfold iTupl
  rw [h]
/-- the only one of a range -/
theorem fm_one (j : Nat) : ∀ (n s : Nat), s ≤ j → j < s + n → ((List.range' s n).filterMap fun i => if i = j then some (D.int (i : Nat)) else none) = [D.int (j : Nat)]
  | 0, s, h1, h2 => by omega
  | n + 1, s, h1, h2 => by
    rw [List.range'_succ, List.filterMap_cons]
    by_cases z : s = j
    · subst z
      have none : ((List.range' (s + 1) n).filterMap fun i => if i = s then some (D.int (i : Nat)) else none) = [] := by
        rw [List.filterMap_eq_nil_iff]
        intro i hi
        have := (List.mem_range'_1.mp hi).1
        rw [if_neg (by omega)]
      simp only [if_true, none]
    · simp only [if_neg z]
      exact fm_one j n (s + 1) (by omega) (by omega)
/-- fractions crosswise, by their units -/
theorem le_cross {n1 t1 n2 t2 u : Int} (p1 : 0 < t1) (p2 : 0 < t2) (u0 : 0 < u) (h1 : t1 ∣ u) (h2 : t2 ∣ u) : n1 * t2 ≤ n2 * t1 ↔ n1 * (u / t1) ≤ n2 * (u / t2) := by
  have a0 := Int.ediv_pos_of_pos_of_dvd u0 (Int.le_of_lt p1) h1
  have b0 := Int.ediv_pos_of_pos_of_dvd u0 (Int.le_of_lt p2) h2
  have e1 := Int.mul_ediv_cancel' h1
  have e2 := Int.mul_ediv_cancel' h2
  generalize u / t1 = a at *
  generalize u / t2 = b at *
  have k1 : n1 * t2 * (a * b) = n1 * a * u := by rw [← e2, mul4]
  have k2 : n2 * t1 * (a * b) = n2 * b * u := by rw [← e1, Int.mul_comm a b, mul4]
  constructor
  · intro h
    have q : n1 * t2 * (a * b) ≤ n2 * t1 * (a * b) := Int.mul_le_mul_of_nonneg_right h (Int.le_of_lt (Int.mul_pos a0 b0))
    rw [k1, k2] at q
    exact Int.le_of_mul_le_mul_right q u0
  · intro h
    have q : n1 * a * u ≤ n2 * b * u := Int.mul_le_mul_of_nonneg_right h (Int.le_of_lt u0)
    rw [← k1, ← k2] at q
    exact Int.le_of_mul_le_mul_right q (Int.mul_pos a0 b0)
end Toy

set_option Elab.async false
set_option linter.all false
set_option maxRecDepth 100000
set_option maxHeartbeats 8000000
namespace Toy
open PySem PySem.Spec PyProof.Rows L2 VS
/-! the law's own runs (k05, k06, k07) -/
theorem lw_loop (x y z : Sl) : ∀ (n : Nat) (a b : Int), 0 ≤ a → 0 ≤ b → b.natAbs < n →
    kWh (sB (s2 gGt (sV 4) (sK (.int 0)))) (kPar [3, 4] (aC (sV 4) (aC (s2 gMod (sL gInt (aC (sV 3) aN)) (sL gInt (aC (sV 4) aN))) aN))) n [x, y, z, .val (.int a), .val (.int b)] = some (.nx, [x, y, z, .val (.int (gd a b)), .val (.int 0)])
  | 0, _, _, _, _, h => by omega
  | n + 1, a, b, ha, hb, h => by
    unfold kWh
    simp only [sB, s2, sV, sK, List.getElem?_cons_zero, List.getElem?_cons_succ, gGt_int]
    by_cases e : b = 0
    · subst e
      simp [gd_zero ha]
    · have hb' : 0 < b := by omega
      simp only [hb', decide_true, kPar, aC, aN, sV, s2, sL, List.getElem?_cons_zero, List.getElem?_cons_succ, gInt_int, gMod_eq hb', sets, List.set_cons_zero, List.set_cons_succ]
      have h1 := Int.emod_nonneg a (show b ≠ 0 by omega)
      have h2 := Int.emod_lt_of_pos a hb'
      rw [lw_loop x y z n b (a % b) hb h1 (by omega), gd_step ha hb']
def lcB : SS := (kS (kPar [3, 4] (aC (sV 1) (aC (sV 2) aN)))
    (kS (kWhile (fuelI 4) (sB (s2 gGt (sV 4) (sK (.int 0))))
    (kPar [3, 4] (aC (sV 4) (aC (s2 gMod (sL gInt (aC (sV 3) aN)) (sL gInt (aC (sV 4) aN))) aN))))
    (kSet 1 (s2 gMul (s2 gFdiv (sV 1) (sV 3)) (sV 2)))))
theorem lc_loop (L : Sl) : ∀ (ns : List Int) (k : Nat) (f : Int) (x2 x3 x4 : Sl), 0 < f → Sm k f → (∀ n ∈ ns, 0 < n ∧ Sm 60 n) → k + 60 * ns.length ≤ 3900 →
    ∃ y2 y3 y4, kLoop (.nm 2) lcB (ns.map .int) [L, .val (.int f), x2, x3, x4] = some (.nx, [L, .val (.int (lcmF f ns)), y2, y3, y4])
  | [], k, f, x2, x3, x4, _, _, _, _ => ⟨x2, x3, x4, rfl⟩
  | n :: r, k, f, x2, x3, x4, h0, h, q, hk => by
    have q1 := q n List.mem_cons_self
    have hk' : k + 60 + 60 * r.length ≤ 3900 := by simp at hk; omega
    obtain ⟨y2, y3, y4, e⟩ := lc_loop L r (k + 60) (lc1 f n) (.val (.int n)) (.val (.int (gd f n))) (.val (.int 0)) (lc1_pos h0 q1.1) (lc1_sm h0 q1.1 h q1.2) (fun m hm => q m (List.mem_cons_of_mem _ hm)) hk'
    have g0 := gd_pos (a := f) q1.1
    have gb : Bd (gd f n) := (gd_sm (a := f) q1.1 q1.2).bd (by decide)
    have b1 : Bd (f / gd f n) := (h.div g0).bd (by omega)
    have b2 : Bd n := q1.2.bd (by decide)
    have lw : kWhile (fuelI 4) (sB (s2 gGt (sV 4) (sK (.int 0)))) (kPar [3, 4] (aC (sV 4) (aC (s2 gMod (sL gInt (aC (sV 3) aN)) (sL gInt (aC (sV 4) aN))) aN))) [L, .val (.int f), .val (.int n), .val (.int f), .val (.int n)] = some (.nx, [L, .val (.int f), .val (.int n), .val (.int (gd f n)), .val (.int 0)]) :=
      lw_loop L (.val (.int f)) (.val (.int n)) (n.natAbs + 2) f n (Int.le_of_lt h0) (Int.le_of_lt q1.1) (by omega)
    refine ⟨y2, y3, y4, ?_⟩
    refine kLoop_nx rfl (ρ2 := [L, .val (.int (lc1 f n)), .val (.int n), .val (.int (gd f n)), .val (.int 0)]) ?_ e
    unfold lcB
    exact kS_nx (kPar_of (aC_of rfl (aC_of rfl rfl)) rfl) (kS_nx lw (kSet_to' (s2_of (s2_of rfl rfl (gFdiv_eq g0 gb)) rfl (gMul_eq b1 b2)) rfl))
theorem law_common_eq {ns : List Int} (h : ∀ n ∈ ns, 0 < n ∧ Sm 60 n) (hl : ns.length ≤ 60) : m_law_common [.val (.lst (ns.map .int))] = some (.int (lcmL ns), []) := by
  obtain ⟨y2, y3, y4, e⟩ := lc_loop (.val (.lst (ns.map .int))) ns 1 1 .no .no .no (by decide) (sm_of (by decide) (by decide)) h (by omega)
  exact mir_rt (ρ0 := [_, _, _, _, _]) rfl (kS_nx (kSet_to' rfl rfl) (kS_nx (kFor_of rfl e) (kRet_of rfl))) rfl
theorem runs_turn_eq {ns : Nt} (h : Steps ns) : m_law_all_runs_turn [.val (.tup (ns.map tupD))] = some (.int (lcmL (turns ns)), []) := by
  have e := law_common_eq (ns := turns ns) (fun n hn => by
    obtain ⟨s, hs, rfl⟩ := List.mem_map.mp hn
    exact ⟨(h.1 s hs).1, (h.1 s hs).2.1⟩) (by unfold turns; rw [List.length_map]; exact h.2)
  have c := cLoop_map (t := .tp [1, 2, 3, 4]) (tt := bYes) (e := sV 2) (ρ := [.val (.tup (ns.map tupD)), .no, .no, .no, .no]) (g := tupD) (f := fun s => D.int s.p) (ds := ns) fun s _ => turn_id rfl rfl rfl rfl
  have w : (turns ns).map D.int = ns.map fun s => D.int s.p := by unfold turns; rw [List.map_map]; rfl
  rw [w] at e
  exact mir_rt (ρ0 := [_, _, _, _, _]) rfl (kRet_of (sCall_of (aC_of (sComp_of rfl c (by rw [List.length_map]; exact Nat.le_trans h.2 (by decide))) rfl) rfl e)) rfl
theorem law_units_eq {ph : List (Int × Int)} (h : Phs ph) : m_law_units [.val (.tup (ph.map frD))] = some (.tup [.lst ((unitL ph).map .int), .int (unitS ph)], []) := by
  have e := law_common_eq (ns := ph.map (·.2)) (fun n hn => by
    obtain ⟨p, hp, rfl⟩ := List.mem_map.mp hn
    exact ⟨(h.1 p hp).1, (h.1 p hp).2.1⟩) (by rw [List.length_map]; have := h.2; omega)
  have c1 := cLoop_map (t := .tp [2, 3]) (tt := bYes) (e := sV 3) (ρ := [.val (.tup (ph.map frD)), .no, .no, .no]) (g := frD) (f := fun p => D.int p.2) (ds := ph) fun p _ => turn_id rfl rfl rfl rfl
  have c2 := cLoop_map (t := .tp [2, 3]) (tt := bYes) (e := s2 gMul (sV 2) (s2 gFdiv (sV 1) (sV 3))) (ρ := [.val (.tup (ph.map frD)), .val (.int (unitS ph)), .no, .no]) (g := frD) (f := fun p => D.int (p.1 * (unitS ph / p.2))) (ds := ph) fun p hp => by
    have q := h.1 p hp
    exact turn_id rfl rfl rfl (s2_of rfl (s2_of rfl rfl (gFdiv_eq q.1 (q.2.1.bd (by decide)))) (gMul_eq (q.2.2.bd (by decide)) ((h.q hp).bd (by decide))))
  have len : ∀ (f : Int × Int → D), (ph.map f).length ≤ LN := fun f => by
    rw [List.length_map]
    exact Nat.le_trans h.2 (by decide)
  have w1 : ph.map (fun p => D.int p.2) = (ph.map (·.2)).map D.int := by rw [List.map_map]; rfl
  have w2 : (unitL ph).map D.int = ph.map (fun p => D.int (p.1 * (unitS ph / p.2))) := by unfold unitL; rw [List.map_map]; rfl
  have l1 := len (fun p => D.int p.2)
  rw [w1] at c1 l1
  rw [w2]
  exact mir_rt (ρ0 := [_, _, _, _]) rfl (kS_nx (kSet_to' (sCall_of (aC_of (sComp_of rfl c1 l1) rfl) rfl e) rfl) (kRet_of (sL_of (aC_of (sComp_of rfl c2 (len _)) (aC_of rfl rfl)) gTup2))) rfl

def netT (ns : Nt) : D := .tup (ns.map tupD)
def unT (S : List Int) (sc : Int) : D := .tup [.lst (S.map .int), .int sc]
def plT (P : List Nat) : D := .lst (intsD P)
section
variable {ns : Nt} {S : List Int} {sc : Int} {P : List Nat} {m : Nat}
theorem Ask.net (A : Ask ns S sc P m) {i : Nat} (h : i < ns.length) : ∃ s : Stp, gIx (netT ns) (.int (i : Nat)) = some (tupD s) ∧ pp ns i = s.p ∧ ll ns i = s.l ∧ gIx (.lst (S.map .int)) (.int (i : Nat)) = some (.int (ss S i)) ∧ 0 < s.p ∧ Sm 60 s.p ∧ Sm 60 s.l ∧ Sm 500 (ss S i) := by
  obtain ⟨s, es, e1, e2, h1, h2, h3⟩ := A.step h
  obtain ⟨x, ex, x1, x2⟩ := A.start h
  refine ⟨s, ?_, e1, e2, ?_, h1, h2, h3, by rw [x1]; exact x2⟩
  · show gIx (.tup _) _ = _
    rw [gIx_tup, atI_nat]
    exact map_get es
  · rw [gIx_nat, x1]
    exact map_get ex
theorem began_eq (A : Ask ns S sc P m) {i : Nat} (h : i < ns.length) {r : Int} (sr : Sm 2000 r) : m_law_began [.val (netT ns), .val (unT S sc), .val (.int (i : Nat)), .val (.int r)] = some (.int (ss S i + r * pp ns i * sc), []) := by
  obtain ⟨s, g1, e1, e2, g2, p0, sp, sl, sx⟩ := A.net h
  have k1 : gIx (tupD s) (.int 1) = some (.int (pp ns i)) := by rw [e1]; rfl
  have sp' : Sm 60 (pp ns i) := by rw [e1]; exact sp
  exact mir_rt (ρ0 := [_, _, _, _]) rfl (kRet_of (s2_of (s2_of (s2_of rfl rfl (show gIx (unT S sc) (.int 0) = some (.lst (S.map .int)) from rfl)) rfl g2) (s2_of (s2_of rfl (s2_of (s2_of rfl rfl g1) rfl k1) (gMul_eq (sr.bd (by decide)) (sp'.bd (by decide)))) (s2_of rfl rfl (show gIx (unT S sc) (.int 1) = some (.int sc) from rfl)) (gMul_eq ((sr.mul sp').bd (by decide)) (A.bc.bd (by decide)))) gAdd_eq)) rfl
theorem wrote_eq (A : Ask ns S sc P m) {i : Nat} (h : i < ns.length) {r : Int} (sr : Sm 2000 r) : m_law_wrote [.val (netT ns), .val (unT S sc), .val (.int (i : Nat)), .val (.int r)] = some (.int (ss S i + r * pp ns i * sc + ll ns i * sc), []) := by
  obtain ⟨s, g1, e1, e2, g2, p0, sp, sl, sx⟩ := A.net h
  have k2 : gIx (tupD s) (.int 2) = some (.int (ll ns i)) := by rw [e2]; rfl
  have sl' : Sm 60 (ll ns i) := by rw [e2]; exact sl
  exact mir_rt (ρ0 := [_, _, _, _]) rfl (kRet_of (s2_of (sCall_of (aC_of rfl (aC_of rfl (aC_of rfl (aC_of rfl rfl)))) rfl (began_eq A h sr)) (s2_of (s2_of (s2_of rfl rfl g1) rfl k2) (s2_of rfl rfl (show gIx (unT S sc) (.int 1) = some (.int sc) from rfl)) (gMul_eq (sl'.bd (by decide)) (A.bc.bd (by decide)))) gAdd_eq)) rfl
theorem own_newest_eq (A : Ask ns S sc P m) {i j : Nat} (hi : i < ns.length) (hj : j < ns.length) {r : Int} (sr : Sm 2000 r) : m_law_newest [.val (netT ns), .val (unT S sc), .val (.int (i : Nat)), .val (.int (j : Nat)), .val (.int r)] = some (.int (rr ns S sc i j r), []) := by
  obtain ⟨s, g1, e1, e2, g2, p0, sp, sl, sx⟩ := A.net hj
  have k1 : gIx (tupD s) (.int 1) = some (.int (pp ns j)) := by rw [e1]; rfl
  have sp' : Sm 60 (pp ns j) := by rw [e1]; exact sp
  have b0 : 0 < pp ns j * sc := by rw [e1]; exact Int.mul_pos p0 A.c0
  have w0 := wrote_eq A hj (r := 0) (sm60 (by decide) (by decide) |>.mono (by decide))
  have e : rr ns S sc i j r = (ss S i + r * pp ns i * sc - (ss S j + 0 * pp ns j * sc + ll ns j * sc)) / (pp ns j * sc) := by
    unfold rr
    rw [Int.zero_mul, Int.zero_mul, Int.add_zero]
    congr 1
    omega
  rw [e]
  exact mir_rt (ρ0 := [_, _, _, _, _, _, _, _]) rfl (kS_nx (kPar_of (aC_of (sCall_of (aC_of rfl (aC_of rfl (aC_of rfl (aC_of rfl rfl)))) rfl (began_eq A hi sr)) (aC_of (s2_of (s2_of (s2_of rfl rfl g1) rfl k1) (s2_of rfl rfl (show gIx (unT S sc) (.int 1) = some (.int sc) from rfl)) (gMul_eq (sp'.bd (by decide)) (A.bc.bd (by decide)))) rfl)) rfl)
    (kS_nx (kSet_to' (s2_of (s2_of rfl (sCall_of (aC_of rfl (aC_of rfl (aC_of rfl (aC_of rfl rfl)))) rfl w0) gSub_eq) rfl (gFdiv_eq b0 ((sp'.mul A.bc).bd (by decide)))) rfl) (kRet_of rfl))) rfl
/-- how large, for drawn nets and phases -/
structure Tgt (ns : Nt) (S : List Int) (sc : Int) : Prop where
  s : ∀ x ∈ S, Sm 61 x
  c : Sm 41 sc
  p : ∀ s ∈ ns, Sm 6 s.p ∧ Sm 7 s.l
theorem Tgt.ss (T : Tgt ns S sc) (i : Nat) : Sm 61 (ss S i) := by
  unfold Toy.ss
  cases e : S[i]? with
  | none => show Sm 61 0; unfold Sm; decide
  | some x => exact T.s x (List.mem_of_getElem? e)
theorem Tgt.pp (T : Tgt ns S sc) (i : Nat) : Sm 6 (pp ns i) := by
  unfold Toy.pp
  cases e : ns[i]? with
  | none => show Sm 6 1; unfold Sm; decide
  | some x => exact (T.p x (List.mem_of_getElem? e)).1
theorem Tgt.ll (T : Tgt ns S sc) (i : Nat) : Sm 7 (ll ns i) := by
  unfold Toy.ll
  cases e : ns[i]? with
  | none => show Sm 7 0; unfold Sm; decide
  | some x => exact (T.p x (List.mem_of_getElem? e)).2
theorem Tgt.rr (T : Tgt ns S sc) (A : Ask ns S sc P m) {b r q : Nat} {x : Int} (hq : q < ns.length) (hb : 100 ≤ b) (h : Sm b x) : Sm (b + 51) (rr ns S sc r q x) := by
  obtain ⟨t, e2, p2, l2, g1, g2, g3⟩ := A.step hq
  have pos : 0 < Toy.pp ns q * sc := by rw [p2]; exact Int.mul_pos g1 A.c0
  have k1 := (h.mul (T.pp r)).mul T.c
  have k2 : Sm (b + 48) (Toy.ss S r + x * Toy.pp ns r * sc) := (T.ss r).add' k1 (by omega) (by omega)
  have k3 : Sm (b + 49) (Toy.ss S r + x * Toy.pp ns r * sc - Toy.ss S q) := k2.sub' (T.ss q) (by omega) (by omega)
  have k4 : Sm (b + 50) (Toy.ss S r + x * Toy.pp ns r * sc - Toy.ss S q - Toy.ll ns q * sc) := k3.sub' ((T.ll q).mul T.c) (by omega) (by omega)
  unfold Toy.rr
  exact k4.div pos
theorem Tgt.carry (T : Tgt ns S sc) (A : Ask ns S sc P m) : ∀ (k b : Nat) (x : Int), k ≤ m → 100 ≤ b → Sm b x → Sm (b + 51 * k) (carry ns S sc P k x)
  | 0, _, _, _, _, h => h
  | k + 1, b, x, hk, hb, h => by
    have q := T.rr A (r := atP P (k + 1)) (q := atP P k) (A.place (by omega)).2 hb h
    have := T.carry A k (b + 51) _ (by omega) (by omega) q
    rw [show b + 51 * (k + 1) = b + 51 + 51 * k by omega]
    exact this
theorem Tgt.age (T : Tgt ns S sc) (A : Ask ns S sc P m) (m4 : m ≤ 4) {x : Int} (h : Sm 101 x) : Sm 400 (ageI ns S sc P m x) := by
  have q := (T.carry A m 101 x (Nat.le_refl m) (by decide) h).mono (d := 305) (by omega)
  unfold ageI tm
  have k1 : Sm 160 (Toy.ss S (atP P m) + x * Toy.pp ns (atP P m) * sc) := (T.ss _).add' ((h.mul (T.pp _)).mul T.c) (by decide) (by decide)
  have k2 : Sm 161 (Toy.ss S (atP P m) + x * Toy.pp ns (atP P m) * sc + Toy.ll ns (atP P m) * sc) := k1.add' ((T.ll _).mul T.c) (by decide) (by decide)
  have k3 : Sm 360 (Toy.ss S (atP P 0) + Toy.carry ns S sc P m x * Toy.pp ns (atP P 0) * sc) := (T.ss _).add' ((q.mul (T.pp _)).mul T.c) (by decide) (by decide)
  exact k2.sub' k3 (by decide) (by decide)
theorem Tgt.list (T : Tgt ns S sc) (A : Ask ns S sc P m) (m4 : m ≤ 4) : ∀ x ∈ agesL ns S sc P m, Sm 400 x := fun x hx => by
  obtain ⟨j, hj, rfl⟩ := List.mem_map.mp hx
  have jl := List.mem_range.mp hj
  have mn : manyR ns P m ≤ 100000 := (A.many (Nat.le_refl m)).2
  exact T.age A m4 (sm60' (by omega) (by omega) |>.mono (by decide))
theorem lcmF_smj (j : Nat) : ∀ {l : List Int} {k : Nat} {f : Int}, 0 < f → Sm k f → (∀ n ∈ l, 0 < n ∧ Sm j n) → Sm (k + j * l.length) (lcmF f l)
  | [], k, f, _, h, _ => h
  | n :: r, k, f, h0, h, q => by
    have q1 := q n List.mem_cons_self
    have g := gd_pos (a := f) q1.1
    have a1 := Int.ediv_le_self (gd f n) (Int.le_of_lt h0)
    have a2 : 0 ≤ f / gd f n := Int.ediv_nonneg (by omega) (by omega)
    have s1 : Sm k (f / gd f n) := by
      unfold Sm at *
      omega
    have := lcmF_smj j (l := r) (lc1_pos h0 q1.1) (s1.mul q1.2) fun m hm => q m (List.mem_cons_of_mem _ hm)
    rw [show k + j * (n :: r).length = k + j + j * r.length by rw [List.length_cons, Nat.mul_add]; omega]
    exact this
theorem drawn_tgt {ph : List (Int × Int)} (N : DrNet ns) (F : ∀ q ∈ ph, FrOk q) (H : Phs ph) (hl : ph.length = ns.length) : Tgt ns (unitL ph) (unitS ph) := by
  have n4 := N.ln
  have c : Sm 41 (unitS ph) := by
    have := lcmF_smj 10 (l := ph.map (·.2)) (k := 1) (f := 1) (by decide) (sm_of (by decide) (by decide)) fun n hn => by
      obtain ⟨p, hp, rfl⟩ := List.mem_map.mp hn
      obtain ⟨a1, a2, _, _⟩ := F p hp
      exact ⟨a1, by unfold Sm; omega⟩
    exact this.mono (by rw [List.length_map]; omega)
  refine ⟨fun x hx => ?_, c, fun s hs => ?_⟩
  · unfold unitL at hx
    obtain ⟨p, hp, rfl⟩ := List.mem_map.mp hx
    obtain ⟨a1, a2, a3, a4⟩ := F p hp
    have s1 : Sm 20 p.1 := by unfold Sm; omega
    exact s1.mul (q_sm H.pos c a1)
  · have a := (N.st.1 s hs).1
    have b := N.p s hs
    have d := N.l s hs
    exact ⟨by unfold Sm; omega, by unfold Sm; omega⟩
def caB : SS := (kSet 3 (sCall 5 m_law_newest (aC (sV 0) (aC (sV 1) (aC (s2 gIx (sV 2) (sV 4)) (aC (s2 gIx (sV 2) (s2 gSub (sV 4) (sK (.int 1)))) (aC (sV 3) aN)))))))
theorem ca_loop (A : Ask ns S sc P m) (T : Tgt ns S sc) : ∀ (k b : Nat) (run : Int) (x : Sl), k ≤ m → Sm b run → 100 ≤ b → b + 51 * k ≤ 2000 → ∃ y, kLoop (.nm 4) caB (rngD (k : Int) k) [.val (netT ns), .val (unT S sc), .val (plT P), .val (.int run), x] = some (.nx, [.val (netT ns), .val (unT S sc), .val (plT P), .val (.int (carry ns S sc P k run)), y])
  | 0, b, run, x, _, _, _, _ => ⟨x, rfl⟩
  | k + 1, b, run, x, hk, h, hb, hb2 => by
    obtain ⟨q1, q2⟩ := A.place hk
    obtain ⟨r1, r2⟩ := A.place (i := k) (by omega)
    have c1 := own_newest_eq A q2 r2 (h.mono (d := 2000) (by omega))
    obtain ⟨y, e⟩ := ca_loop A T k (b + 51) (rr ns S sc (atP P (k + 1)) (atP P k) run) (.val (.int ((k + 1 : Nat) : Int))) (by omega) (T.rr A r2 hb h) (by omega) (by omega)
    have s1 : ((k + 1 : Nat) : Int) - 1 = (k : Nat) := by omega
    have gs : gSub (.int ((k + 1 : Nat) : Int)) (.int 1) = some (.int (k : Nat)) := by rw [gSub_eq, s1]
    have m1 : gIx (plT P) (.int ((k + 1 : Nat) : Int)) = some (.int (atP P (k + 1) : Nat)) := by
      show gIx (.lst _) _ = _
      rw [gIx_nat]
      exact map_get q1
    have m2 : gIx (plT P) (.int (k : Nat)) = some (.int (atP P k : Nat)) := by
      show gIx (.lst _) _ = _
      rw [gIx_nat]
      exact map_get r1
    rw [rngD_succ]
    refine ⟨y, kLoop_nx rfl (ρ2 := [.val (netT ns), .val (unT S sc), .val (plT P), .val (.int (rr ns S sc (atP P (k + 1)) (atP P k) run)), .val (.int ((k + 1 : Nat) : Int))]) ?_ e⟩
    unfold caB
    exact kSet_to' (sCall_of (aC_of rfl (aC_of rfl (aC_of (s2_of rfl rfl m1) (aC_of (s2_of rfl (s2_of rfl rfl gs) m2) (aC_of rfl rfl))))) rfl c1) rfl
theorem iRD_places (A : Ask ns S sc P m) {i : Nat} {ρ : Rho} (h : sV i ρ = some (plT P, ρ)) : iRD (aC (s2 gSub (sL gLen (aC (sV i) aN)) (sK (.int 1))) (aC (sK (.int 0)) (aC (s2 gSub (sK (.int 0)) (sK (.int 1))) aN))) ρ = some (rngD (m : Int) m, ρ) := by
  have pm := A.pm
  have gl : gLen [plT P] = some (.int ((m + 1 : Nat) : Int)) := by
    show some (D.int ((intsD P).length : Int)) = _
    unfold intsD
    rw [List.length_map, A.pl]
  have a : aC (s2 gSub (sL gLen (aC (sV i) aN)) (sK (.int 1))) (aC (sK (.int 0)) (aC (s2 gSub (sK (.int 0)) (sK (.int 1))) aN)) ρ = some ([.int (m : Nat), .int 0, .int (-1)], ρ) :=
    aC_of (s2_of (sL_of (aC_of h rfl) gl) rfl (by rw [gSub_eq, show ((m + 1 : Nat) : Int) - 1 = (m : Nat) by omega])) (aC_of rfl (aC_of rfl rfl))
  have l2 : small62 (m : Int) := ⟨by omega, by omega⟩
  have l4 : small62 0 := ⟨by decide, by decide⟩
  unfold iRD
  rw [a]
  simp only [l2, l4, and_self, if_true, show ((m : Int) - 0).toNat = m by omega]
theorem own_carried_eq (A : Ask ns S sc P m) (T : Tgt ns S sc) (m4 : m ≤ 4) {r : Int} (sr : Sm 1000 r) : m_law_carried [.val (netT ns), .val (unT S sc), .val (plT P), .val (.int r)] = some (.int (carry ns S sc P m r), []) := by
  obtain ⟨y, e⟩ := ca_loop A T m 1000 r .no (Nat.le_refl m) sr (by decide) (by omega)
  exact mir_rt (ρ0 := [_, _, _, _, _]) rfl (kS_nx (kFor_of (iRD_places A rfl) e) (kRet_of rfl)) rfl
end
end Toy

set_option Elab.async false
set_option linter.all false
set_option maxRecDepth 100000
set_option maxHeartbeats 8000000
namespace Toy
open PySem PySem.Spec PyProof.Rows L2 VS
/-! k06: the first run that carries a run or a later one -/
structure Al (ns : Nt) (ph : List (Int × Int)) (P : List Nat) (m : Nat) : Prop where
  N : DrNet ns
  F : ∀ q ∈ ph, FrOk q
  H : Phs ph
  l : ph.length = ns.length
  hP : Pth ns P
  hm : P.length = m + 1
  m4 : m ≤ 4
section
variable {ns : Nt} {ph : List (Int × Int)} {P : List Nat} {m : Nat}
theorem Al.A (R : Al ns ph P m) : Ask ns (unitL ph) (unitS ph) P m := dr_ask R.N R.H R.l R.hP R.hm (by have := R.m4; omega)
theorem Al.E (R : Al ns ph P m) : Entry ns (unitL ph) (unitS ph) P (.tup (ph.map frD)) (.lst (pathD ns P)) := dr_entry R.N R.H R.l R.hP (by rw [R.hm]; have := R.m4; omega)
theorem Al.T (R : Al ns ph P m) : Tgt ns (unitL ph) (unitS ph) := drawn_tgt R.N R.F R.H R.l
theorem last_place (A : Ask ns (unitL ph) (unitS ph) P m) : gIx (plT P) (.int (-1)) = some (.int (atP P m : Nat)) := A.last
theorem first_place (A : Ask ns (unitL ph) (unitS ph) P m) : gIx (plT P) (.int 0) = some (.int (atP P 0 : Nat)) := A.first
/-- the beginning of a run of a step of the path -/
def bg (ns : Nt) (S : List Int) (sc : Int) (P : List Nat) (k : Nat) (x : Int) : Int := ss S (atP P k) + x * pp ns (atP P k) * sc
theorem pl_bounds (R : Al ns ph P m) {k : Nat} (hk : k ≤ m) : 0 < pp ns (atP P k) ∧ pp ns (atP P k) ≤ 60 ∧ 0 ≤ ll ns (atP P k) ∧ ll ns (atP P k) ≤ 100 := by
  obtain ⟨s, es, e1, e2, h1, _, _⟩ := R.A.step (R.A.place hk).2
  have ms := List.mem_of_getElem? es
  rw [e1, e2]
  exact ⟨h1, R.N.p s ms, (R.N.l s ms).1, (R.N.l s ms).2⟩
theorem hop_low (R : Al ns ph P m) {k : Nat} (hk : k + 1 ≤ m) (x : Int) :
    bg ns (unitL ph) (unitS ph) P k (rr ns (unitL ph) (unitS ph) (atP P (k + 1)) (atP P k) x) ≤ bg ns (unitL ph) (unitS ph) P (k + 1) x ∧
    bg ns (unitL ph) (unitS ph) P (k + 1) x - 160 * unitS ph ≤ bg ns (unitL ph) (unitS ph) P k (rr ns (unitL ph) (unitS ph) (atP P (k + 1)) (atP P k) x) := by
  obtain ⟨p0, p1, l0, l1⟩ := pl_bounds R (k := k) (by omega)
  have c0 := R.H.pos
  unfold bg rr
  generalize ss (unitL ph) (atP P (k + 1)) + x * pp ns (atP P (k + 1)) * unitS ph = b at *
  generalize ss (unitL ph) (atP P k) = s at *
  generalize pp ns (atP P k) = p at *
  generalize ll ns (atP P k) = l at *
  generalize unitS ph = c at *
  have t0 : 0 < p * c := Int.mul_pos p0 c0
  have d1 := Int.mul_ediv_add_emod (b - s - l * c) (p * c)
  have d2 := Int.emod_nonneg (b - s - l * c) (show p * c ≠ 0 by omega)
  have d3 := Int.emod_lt_of_pos (b - s - l * c) t0
  generalize (b - s - l * c) / (p * c) = q at *
  generalize (b - s - l * c) % (p * c) = r at *
  have e : q * p * c = p * c * q := by rw [Int.mul_assoc, Int.mul_comm]
  rw [e]
  have l2 : 0 ≤ l * c := Int.mul_nonneg l0 (Int.le_of_lt c0)
  have l3 : l * c ≤ 100 * c := Int.mul_le_mul_of_nonneg_right l1 (Int.le_of_lt c0)
  have p3 : p * c ≤ 60 * c := Int.mul_le_mul_of_nonneg_right p1 (Int.le_of_lt c0)
  generalize p * c * q = w at *
  constructor <;> omega
theorem carry_low (R : Al ns ph P m) : ∀ (k : Nat) (x : Int), k ≤ m →
    bg ns (unitL ph) (unitS ph) P 0 (carry ns (unitL ph) (unitS ph) P k x) ≤ bg ns (unitL ph) (unitS ph) P k x ∧
    bg ns (unitL ph) (unitS ph) P k x - 160 * (k : Nat) * unitS ph ≤ bg ns (unitL ph) (unitS ph) P 0 (carry ns (unitL ph) (unitS ph) P k x)
  | 0, x, _ => by
    refine ⟨Int.le_refl _, ?_⟩
    simp only [carry]
    omega
  | k + 1, x, hk => by
    obtain ⟨h1, h2⟩ := hop_low R hk x
    obtain ⟨i1, i2⟩ := carry_low R k (rr ns (unitL ph) (unitS ph) (atP P (k + 1)) (atP P k) x) (by omega)
    have e : 160 * ((k + 1 : Nat) : Int) * unitS ph = 160 * (k : Nat) * unitS ph + 160 * unitS ph := by
      rw [show 160 * ((k + 1 : Nat) : Int) = 160 * (k : Nat) + 160 by omega, Int.add_mul]
    rw [e]
    show bg ns (unitL ph) (unitS ph) P 0 (carry ns (unitL ph) (unitS ph) P k _) ≤ _ ∧ _ ≤ bg ns (unitL ph) (unitS ph) P 0 (carry ns (unitL ph) (unitS ph) P k _)
    constructor <;> omega
theorem bg_le (R : Al ns ph P m) {a b : Int} (h : bg ns (unitL ph) (unitS ph) P 0 a < bg ns (unitL ph) (unitS ph) P 0 b) : a < b := by
  obtain ⟨p0, _⟩ := pl_bounds R (k := 0) (Nat.zero_le m)
  have t0 : 0 < pp ns (atP P 0) * unitS ph := Int.mul_pos p0 R.H.pos
  unfold bg at h
  rw [Int.mul_assoc, Int.mul_assoc] at h
  refine Int.lt_of_mul_lt_mul_right (a := pp ns (atP P 0) * unitS ph) (by omega) (Int.le_of_lt t0)
/-- where the search begins -/
def stR (ns : Nt) (S : List Int) (sc : Int) (P : List Nat) (m : Nat) (q : Int) : Int := (bg ns S sc P 0 q - ss S (atP P m)) / (pp ns (atP P m) * sc) - 1
theorem start_low (R : Al ns ph P m) (q : Int) : carry ns (unitL ph) (unitS ph) P m (stR ns (unitL ph) (unitS ph) P m q - 1) < q ∧ q ≤ carry ns (unitL ph) (unitS ph) P m (stR ns (unitL ph) (unitS ph) P m q + 642) := by
  obtain ⟨p0, _⟩ := pl_bounds R (k := m) (Nat.le_refl m)
  have c0 := R.H.pos
  have t0 : 0 < pp ns (atP P m) * unitS ph := Int.mul_pos p0 c0
  have t1 : unitS ph ≤ pp ns (atP P m) * unitS ph := by
    have := Int.mul_le_mul_of_nonneg_right (show 1 ≤ pp ns (atP P m) by omega) (Int.le_of_lt c0)
    omega
  obtain ⟨h1, _⟩ := carry_low R m (stR ns (unitL ph) (unitS ph) P m q - 1) (Nat.le_refl m)
  obtain ⟨_, h2⟩ := carry_low R m (stR ns (unitL ph) (unitS ph) P m q + 642) (Nat.le_refl m)
  have m4 := R.m4
  have m5 : 160 * (m : Nat) * unitS ph ≤ 640 * unitS ph := Int.mul_le_mul_of_nonneg_right (by omega) (Int.le_of_lt c0)
  have e0 : ∀ x, bg ns (unitL ph) (unitS ph) P m x = ss (unitL ph) (atP P m) + pp ns (atP P m) * unitS ph * x := fun x => by
    unfold bg
    rw [Int.mul_assoc, Int.mul_comm]
  have d1 := Int.mul_ediv_add_emod (bg ns (unitL ph) (unitS ph) P 0 q - ss (unitL ph) (atP P m)) (pp ns (atP P m) * unitS ph)
  have d2 := Int.emod_nonneg (bg ns (unitL ph) (unitS ph) P 0 q - ss (unitL ph) (atP P m)) (show pp ns (atP P m) * unitS ph ≠ 0 by omega)
  have d3 := Int.emod_lt_of_pos (bg ns (unitL ph) (unitS ph) P 0 q - ss (unitL ph) (atP P m)) t0
  rw [e0] at h1 h2
  constructor
  · refine bg_le R (Int.lt_of_le_of_lt h1 ?_)
    unfold stR
    rw [Int.mul_sub, Int.mul_sub]
    generalize (bg ns (unitL ph) (unitS ph) P 0 q - ss (unitL ph) (atP P m)) / (pp ns (atP P m) * unitS ph) = w at *
    generalize pp ns (atP P m) * unitS ph * w = z at *
    omega
  · refine Int.not_lt.mp fun h => ?_
    have lt : bg ns (unitL ph) (unitS ph) P 0 (carry ns (unitL ph) (unitS ph) P m (stR ns (unitL ph) (unitS ph) P m q + 642)) < bg ns (unitL ph) (unitS ph) P 0 q := by
      obtain ⟨p0', _⟩ := pl_bounds R (k := 0) (Nat.zero_le m)
      have t0' : 0 < pp ns (atP P 0) * unitS ph := Int.mul_pos p0' c0
      have := Int.mul_lt_mul_of_pos_right h t0'
      generalize carry ns (unitL ph) (unitS ph) P m (stR ns (unitL ph) (unitS ph) P m q + 642) = y at *
      unfold bg
      rw [Int.mul_assoc, Int.mul_assoc]
      omega
    revert h2
    unfold stR at lt ⊢
    intro h2
    rw [Int.mul_add, Int.mul_sub] at h2
    generalize (bg ns (unitL ph) (unitS ph) P 0 q - ss (unitL ph) (atP P m)) / (pp ns (atP P m) * unitS ph) = w at *
    generalize pp ns (atP P m) * unitS ph * w = z at *
    omega
def fiB : SS := (kS (kIf (sB (s2 gGe (sCall 4 m_law_carried (aC (sV 0) (aC (sV 1) (aC (sV 2) (aC (sV 5) aN))))) (sV 3)))
    (kRet (sV 5)) kN)
    (kSet 5 (s2 gAdd (sV 5) (sK (.int 1)))))
theorem fi_loop (R : Al ns ph P m) {q r0 : Int} (sz : ∀ j : Nat, j ≤ 4000 → Sm 300 (r0 + (j : Nat))) (x4 : Sl) : ∀ (k n : Nat) (x6 : Sl), n + k ≤ 4000 → carry ns (unitL ph) (unitS ph) P m (r0 + (n : Nat) - 1) < q → (∃ t : Nat, t < k ∧ q ≤ carry ns (unitL ph) (unitS ph) P m (r0 + (n : Nat) + (t : Nat))) →
    ∃ g y6, kLoop (.nm 6) fiB ((List.range' n k).map fun j => .int (j : Nat)) [.val (netT ns), .val (unT (unitL ph) (unitS ph)), .val (plT P), .val (.int q), x4, .val (.int (r0 + (n : Nat))), x6] = some (.rt (.int g), [.val (netT ns), .val (unT (unitL ph) (unitS ph)), .val (plT P), .val (.int q), x4, .val (.int g), y6]) ∧
      q ≤ carry ns (unitL ph) (unitS ph) P m g ∧ carry ns (unitL ph) (unitS ph) P m (g - 1) < q ∧ Sm 300 g
  | 0, n, x6, _, _, h => by
    obtain ⟨t, h1, _⟩ := h
    omega
  | k + 1, n, x6, hn, h1, ⟨t, h2, h3⟩ => by
    have s := sz n (by omega)
    have c1 := own_carried_eq R.A R.T R.m4 (r := r0 + (n : Nat)) (s.mono (by decide))
    rw [List.range'_succ, List.map_cons]
    by_cases z : q ≤ carry ns (unitL ph) (unitS ph) P m (r0 + (n : Nat))
    · refine ⟨r0 + (n : Nat), .val (.int (n : Nat)), kLoop_rt rfl ?_, z, h1, s⟩
      unfold fiB
      exact kS_rt (kIf_t (sB_of (s2_of (sCall_of (aC_of rfl (aC_of rfl (aC_of rfl (aC_of rfl rfl)))) rfl c1) rfl (by rw [gGe_int, decide_eq_true z]))) (kRet_of rfl))
    · have w : t ≠ 0 := fun e => by
        subst e
        rw [show ((0 : Nat) : Int) = 0 from rfl, Int.add_zero] at h3
        exact z h3
      obtain ⟨g, y6, e, f1, f2, f3⟩ := fi_loop R (q := q) (r0 := r0) sz x4 k (n + 1) (.val (.int (n : Nat))) (by omega) (by rw [show r0 + ((n + 1 : Nat) : Int) - 1 = r0 + (n : Nat) by omega]; omega) ⟨t - 1, by omega, by rw [show r0 + ((n + 1 : Nat) : Int) + ((t - 1 : Nat) : Int) = r0 + (n : Nat) + (t : Nat) by omega]; exact h3⟩
      refine ⟨g, y6, kLoop_nx rfl ?_ e, f1, f2, f3⟩
      unfold fiB
      exact kS_nx (kIf_f (sB_of (s2_of (sCall_of (aC_of rfl (aC_of rfl (aC_of rfl (aC_of rfl rfl)))) rfl c1) rfl (by rw [gGe_int, decide_eq_false z]))) rfl) (kSet_to' (s2_of rfl rfl gAdd_eq) (by
        show [_, _, _, _, _, _, _] = [_, _, _, _, _, _, _]
        rw [show r0 + (n : Int) + 1 = r0 + ((n + 1 : Nat) : Int) by omega]))
theorem iR_big {j : Int} {n : Nat} (e : j = (n : Nat)) (hn : n ≤ 100000) {ρ : Rho} : iR (aC (sK (.int j)) aN) ρ = some ((List.range' 0 n).map fun j => .int (j : Nat), ρ) := by
  subst e
  exact iR_len (aC_of rfl rfl) (by omega)
theorem first_eq (R : Al ns ph P m) {q : Int} (sq : Sm 102 q) : ∃ g, m_law_first_that_carries [.val (netT ns), .val (unT (unitL ph) (unitS ph)), .val (plT P), .val (.int q)] = some (.int g, []) ∧
      q ≤ carry ns (unitL ph) (unitS ph) P m g ∧ carry ns (unitL ph) (unitS ph) P m (g - 1) < q ∧ Sm 300 g := by
  have A := R.A
  have T := R.T
  have c0 := R.H.pos
  obtain ⟨l1, l2⟩ := start_low R q
  obtain ⟨s, g1, a1, _, x1, p0, sp, _, _⟩ := A.net (A.place (Nat.le_refl m)).2
  have w1 : gIx (tupD s) (.int 1) = some (.int (pp ns (atP P m))) := by rw [a1]; rfl
  have tp : Sm 6 (pp ns (atP P m)) := T.pp _
  have tp0 : 0 < pp ns (atP P m) := (A.pd (Nat.le_refl m)).1
  have t0 : 0 < pp ns (atP P m) * unitS ph := Int.mul_pos tp0 c0
  have sb : Sm 150 (bg ns (unitL ph) (unitS ph) P 0 q) := (T.ss _).add' ((sq.mul (T.pp _)).mul T.c) (by decide) (by decide)
  have s1 : Sm 151 (bg ns (unitL ph) (unitS ph) P 0 q - ss (unitL ph) (atP P m)) := sb.sub' (T.ss _) (by decide) (by decide)
  have s2' := s1.div t0
  have s3 : Sm 290 (stR ns (unitL ph) (unitS ph) P m q) := s2'.sub' (sm60 (by decide) (by decide)) (by decide) (by decide)
  have sz : ∀ j : Nat, j ≤ 4000 → Sm 300 (stR ns (unitL ph) (unitS ph) P m q + (j : Nat)) := fun j hj => s3.add' (sm60' (i := (j : Nat)) (by omega) (by omega)) (by decide) (by decide)
  have bq := began_eq A (A.place (Nat.zero_le m)).2 (sq.mono (d := 2000) (by decide))
  have gn : gNeg (.int 1) = some (.int (-1)) := rfl
  have gu : gIx (unT (unitL ph) (unitS ph)) (.int 1) = some (.int (unitS ph)) := rfl
  have gs : gIx (unT (unitL ph) (unitS ph)) (.int 0) = some (.lst ((unitL ph).map .int)) := rfl
  obtain ⟨g, y6, e, f1, f2, f3⟩ := fi_loop R sz (.val (.int (pp ns (atP P m) * unitS ph))) 4000 0 .no (by decide) (by simpa using l1) ⟨642, by decide, by simpa using l2⟩
  refine ⟨g, ?_, f1, f2, f3⟩
  rw [show stR ns (unitL ph) (unitS ph) P m q + ((0 : Nat) : Int) = stR ns (unitL ph) (unitS ph) P m q by simp] at e
  exact mir_rt (ρ0 := [_, _, _, _, _, _, _]) rfl (kS_nx (kSet_to' (s2_of (s2_of (s2_of rfl (s2_of rfl (s1_of rfl gn) (last_place A)) g1) rfl w1) (s2_of rfl rfl gu) (gMul_eq (tp.bd (by decide)) (T.c.bd (by decide)))) rfl)
    (kS_nx (kSet_to' (s2_of (s2_of (s2_of (sCall_of (aC_of rfl (aC_of rfl (aC_of (s2_of rfl rfl (first_place A)) (aC_of rfl rfl)))) rfl bq) (s2_of (s2_of rfl rfl gs) (s2_of rfl (s1_of rfl gn) (last_place A)) x1) gSub_eq) rfl (gFdiv_eq t0 ((tp.mul T.c).bd (by decide)))) rfl gSub_eq) rfl)
      (kS_rt (kFor_of (iR_big (n := 4000) rfl (by decide)) e)))) rfl
/-- runs of the path any number of turns on -/
theorem turns_on (A : Ask ns (unitL ph) (unitS ph) P m) (t i : Int) : carry ns (unitL ph) (unitS ph) P m (i + t * (manyR ns P m : Nat)) = carry ns (unitL ph) (unitS ph) P m i + t * (lcmL (turns ns) / pp ns (atP P 0)) := by
  obtain ⟨n0, n1⟩ := many_pos A
  have up : ∀ (t : Nat) (i : Int), carry ns (unitL ph) (unitS ph) P m (i + (t : Nat) * (manyR ns P m : Nat)) = carry ns (unitL ph) (unitS ph) P m i + (t : Nat) * (lcmL (turns ns) / pp ns (atP P 0)) := by
    intro t
    induction t with
    | zero => intro i; simp
    | succ t ih =>
      intro i
      have e : i + ((t + 1 : Nat) : Int) * (manyR ns P m : Nat) = i + (t : Nat) * (manyR ns P m : Nat) + lcmL (turns ns) / pp ns (atP P m) := by
        rw [← n1, Int.natCast_add, Int.add_mul]
        omega
      rw [e, carry_turn A m _ (Nat.le_refl m), ih, Int.natCast_add, Int.add_mul]
      omega
  rcases Int.le_total 0 t with q | q
  · obtain ⟨k, rfl⟩ := Int.eq_ofNat_of_zero_le q
    exact up k i
  · obtain ⟨k, hk⟩ := Int.eq_ofNat_of_zero_le (show 0 ≤ -t by omega)
    have := up k (i + t * (manyR ns P m : Nat))
    rw [← hk, Int.neg_mul, Int.add_assoc, Int.add_right_neg, Int.add_zero, Int.neg_mul] at this
    omega
/-- the wait of run q: from just behind its beginning to the first writing that carries a later one -/
theorem wait_eq (R : Al ns ph P m) {q : Int} (sq : Sm 101 q) : ∃ g, m_law_wait [.val (netT ns), .val (unT (unitL ph) (unitS ph)), .val (plT P), .val (.int q)] = some (.int (tm ns (unitL ph) (unitS ph) P m g q), []) ∧
      q < carry ns (unitL ph) (unitS ph) P m g ∧ carry ns (unitL ph) (unitS ph) P m (g - 1) ≤ q ∧ Sm 300 g := by
  have A := R.A
  obtain ⟨g, e, f1, f2, f3⟩ := first_eq R (q := q + 1) (sq.add' (sm60 (by decide) (by decide)) (by decide) (by decide))
  have w := wrote_eq A (A.place (Nat.le_refl m)).2 (f3.mono (d := 2000) (by decide))
  have b := began_eq A (A.place (Nat.zero_le m)).2 (sq.mono (d := 2000) (by decide))
  have gn : gNeg (.int 1) = some (.int (-1)) := rfl
  refine ⟨g, ?_, by omega, by omega, f3⟩
  exact mir_rt (ρ0 := [_, _, _, _, _]) rfl (kS_nx (kSet_to' (sCall_of (aC_of rfl (aC_of rfl (aC_of rfl (aC_of (s2_of rfl rfl gAdd_eq) rfl)))) rfl e) rfl)
    (kRet_of (s2_of (sCall_of (aC_of rfl (aC_of rfl (aC_of (s2_of rfl (s1_of rfl gn) (last_place A)) (aC_of rfl rfl)))) rfl w) (sCall_of (aC_of rfl (aC_of rfl (aC_of (s2_of rfl rfl (first_place A)) (aC_of rfl rfl)))) rfl b) gSub_eq))) rfl
theorem tm_le (R : Al ns ph P m) {r a b : Int} (h : a ≤ b) : tm ns (unitL ph) (unitS ph) P m r b ≤ tm ns (unitL ph) (unitS ph) P m r a := by
  obtain ⟨p0, _⟩ := pl_bounds R (k := 0) (Nat.zero_le m)
  have t0 : 0 < pp ns (atP P 0) * unitS ph := Int.mul_pos p0 R.H.pos
  unfold tm
  have := Int.mul_le_mul_of_nonneg_right h (Int.le_of_lt t0)
  rw [Int.mul_assoc b, Int.mul_assoc a]
  omega
theorem tm_le' (R : Al ns ph P m) {r s a : Int} (h : r ≤ s) : tm ns (unitL ph) (unitS ph) P m r a ≤ tm ns (unitL ph) (unitS ph) P m s a := by
  obtain ⟨p0, _⟩ := pl_bounds R (k := m) (Nat.le_refl m)
  have t0 : 0 < pp ns (atP P m) * unitS ph := Int.mul_pos p0 R.H.pos
  unfold tm
  have := Int.mul_le_mul_of_nonneg_right h (Int.le_of_lt t0)
  rw [Int.mul_assoc r, Int.mul_assoc s]
  omega
/-- no wait is greater than the greatest age and a period of the last step -/
theorem wait_le (R : Al ns ph P m) {hi q g : Int} (h : ∀ x ∈ agesL ns (unitL ph) (unitS ph) P m, x ≤ hi) (h2 : carry ns (unitL ph) (unitS ph) P m (g - 1) ≤ q) :
    tm ns (unitL ph) (unitS ph) P m g q ≤ hi + pp ns (atP P m) * unitS ph := by
  have a := h _ (age_mod R.A (g - 1))
  have n := tm_next (ns := ns) (S := unitL ph) (sc := unitS ph) (P := P) (m := m) (g - 1) q
  rw [show g - 1 + 1 = g by omega] at n
  have l := tm_le R (r := g - 1) h2
  unfold ageI at a
  omega
/-- some wait of a turn is as great -/
theorem wait_ge (R : Al ns ph P m) {hi : Int} (h : hi ∈ agesL ns (unitL ph) (unitS ph) P m) : ∃ q : Nat, ((q : Nat) : Int) < lcmL (turns ns) / pp ns (atP P 0) ∧ ∀ g, ((q : Nat) : Int) < carry ns (unitL ph) (unitS ph) P m g → hi + pp ns (atP P m) * unitS ph ≤ tm ns (unitL ph) (unitS ph) P m g (q : Nat) := by
  have A := R.A
  obtain ⟨j, hj, rfl⟩ := List.mem_map.mp h
  have k0 : 0 < lcmL (turns ns) / pp ns (atP P 0) := Int.ediv_pos_of_pos_of_dvd (turns_pos A.st) (Int.le_of_lt (A.pd (Nat.zero_le m)).1) (A.pd (Nat.zero_le m)).2
  obtain ⟨n0, n1⟩ := many_pos A
  generalize hK : lcmL (turns ns) / pp ns (atP P 0) = K at *
  have d1 := Int.mul_ediv_add_emod (carry ns (unitL ph) (unitS ph) P m (j : Nat)) K
  have d2 := Int.emod_nonneg (carry ns (unitL ph) (unitS ph) P m (j : Nat)) (show K ≠ 0 by omega)
  have d3 := Int.emod_lt_of_pos (carry ns (unitL ph) (unitS ph) P m (j : Nat)) k0
  obtain ⟨q, hq⟩ := Int.eq_ofNat_of_zero_le d2
  have to := turns_on A (-(carry ns (unitL ph) (unitS ph) P m (j : Nat) / K)) (j : Nat)
  rw [hK] at to
  have ci : carry ns (unitL ph) (unitS ph) P m ((j : Nat) + -(carry ns (unitL ph) (unitS ph) P m (j : Nat) / K) * (manyR ns P m : Nat)) = (q : Nat) := by
    rw [to, ← hq, Int.neg_mul, Int.mul_comm]
    omega
  refine ⟨q, by omega, fun g hg => ?_⟩
  have lt : (j : Nat) + -(carry ns (unitL ph) (unitS ph) P m (j : Nat) / K) * (manyR ns P m : Nat) ≤ g - 1 := by
    refine Int.not_lt.mp fun z => ?_
    have := carry_mono A m (x := g) (y := (j : Nat) + -(carry ns (unitL ph) (unitS ph) P m (j : Nat) / K) * (manyR ns P m : Nat)) (Nat.le_refl m) (by omega)
    omega
  have ag : tm ns (unitL ph) (unitS ph) P m (j : Nat) (carry ns (unitL ph) (unitS ph) P m (j : Nat)) = tm ns (unitL ph) (unitS ph) P m ((j : Nat) + -(carry ns (unitL ph) (unitS ph) P m (j : Nat) / K) * (manyR ns P m : Nat)) (q : Nat) := by
    have hq' : ((q : Nat) : Int) = carry ns (unitL ph) (unitS ph) P m (j : Nat) - K * (carry ns (unitL ph) (unitS ph) P m (j : Nat) / K) := by omega
    rw [hq']
    have pm := Int.ediv_mul_cancel (A.pd (Nat.le_refl m)).2
    have p0 := Int.ediv_mul_cancel (A.pd (Nat.zero_le m)).2
    rw [← n1] at pm
    rw [hK] at p0
    unfold tm
    generalize carry ns (unitL ph) (unitS ph) P m (j : Nat) = f at *
    generalize f / K = t at *
    generalize ((manyR ns P m : Nat) : Int) = M at *
    generalize pp ns (atP P m) = a at *
    generalize pp ns (atP P 0) = b at *
    generalize lcmL (turns ns) = L at *
    have e1 : ((j : Int) + -t * M) * a * unitS ph = (j : Int) * a * unitS ph - t * L * unitS ph := by
      rw [← pm, Int.add_mul, Int.add_mul, Int.neg_mul, Int.neg_mul, Int.neg_mul, Int.mul_assoc t M a]
      omega
    have e2 : (f - K * t) * b * unitS ph = f * b * unitS ph - t * L * unitS ph := by
      rw [← p0, Int.sub_mul, Int.sub_mul, Int.mul_comm K t, Int.mul_assoc t K b]
    rw [e1, e2]
    omega
  have n := tm_next (ns := ns) (S := unitL ph) (sc := unitS ph) (P := P) (m := m) (g - 1) (q : Nat)
  rw [show g - 1 + 1 = g by omega] at n
  have l := tm_le' R (a := (q : Nat)) lt
  rw [n]
  show ageI ns (unitL ph) (unitS ph) P m (j : Nat) + _ ≤ _
  unfold ageI
  omega
end
theorem toIs_ints : ∀ l : List Int, toIs (l.map D.int) = some l
  | [] => rfl
  | i :: r => by
    have := toIs_ints r
    show toIs (D.int i :: r.map D.int) = _
    unfold toIs
    rw [this]
theorem gMax_lst {l : List Int} {x : Int} (h1 : x ∈ l) (h2 : ∀ y ∈ l, y ≤ x) : gMax [.lst (l.map .int)] = some (.int x) := by
  cases l with
  | nil => cases h1
  | cons i r =>
    show (match toIs ((i :: r).map D.int) with | some (i :: r) => some (D.int (imax (i :: r))) | _ => none) = _
    rw [toIs_ints]
    have a := imax_le i r x h1
    have b := h2 _ (imax_mem i r)
    show some (D.int (imax (i :: r))) = _
    rw [show imax (i :: r) = x by omega]
end Toy

set_option Elab.async false
set_option linter.all false
set_option maxRecDepth 100000
set_option maxHeartbeats 8000000
namespace Toy
open PySem PySem.Spec PyProof.Rows L2 VS
def okS : Sl → Bool
  | .own _ => false
  | .bor _ => false
  | _ => true
theorem okT_1 {i : Nat} {ρ : Rho} {s : Sl} (h : ρ[i]? = some s) (o : okS s = true) : okT [i] ρ = true := by
  unfold okT
  rw [List.all_cons, h]
  cases s <;> first | rfl | cases o
theorem gTup3' {a b c : D} : VS.gTup [a, b, c] = some (.tup [a, b, c]) := rfl
def duE : SE := (sComp (iR (aC (sV 8) aN)) (.nm 10) bYes (sL gInt (aC (sCall 4 m_law_wait (aC (sV 3) (aC (sV 7) (aC (sV 6) (aC (sV 10) aN))))) aN)))
def rB1 : SS := (kSet 10 (sCallM 1 m_law_run 2 aN))
def rB2 : SS := (kSet 12 (s2 gSub (sCall 4 m_law_began (aC (sV 3) (aC (sV 7) (aC (s2 gIx (sV 6) (sK (.int 0))) (aC (sV 10) aN))))) (sCallM 2 m_law_draw 2 (aC (s2 gMul (s2 gIx (s2 gIx (sV 3) (s2 gIx (sV 6) (sK (.int 0)))) (sK (.int 1))) (s2 gIx (sV 7) (sK (.int 1)))) aN))))
def rB3 : SS := (kSet 13 (sCall 4 m_law_first_that_carries (aC (sV 3) (aC (sV 7) (aC (sV 6) (aC (sV 10) aN))))))
def rB4 : SS := (kIf (sB (s2 gGe (s2 gSub (sCall 4 m_law_wrote (aC (sV 3) (aC (sV 7) (aC (s2 gIx (sV 6) (s1 gNeg (sK (.int 1)))) (aC (sV 13) aN))))) (sV 12)) (sV 9)))
    (kRet (sK (.bl false))) kN)
def rB : SS := kS rB1 (kS rB2 (kS rB3 rB4))
def oB1 : SS := (kSet 3 (sCallM 1 m_law_net 2 aN))
def oB2 : SS := (kTup [4, 5, 6] (sL gTup (aC (sCall 1 m_law_made (aC (sV 3) aN)) (aC (sCallM 2 m_law_phases 2 (aC (sV 3) aN)) (aC (sCallM 2 m_law_path 2 (aC (sV 3) aN)) aN)))))
def oB3 : SS := (kSet 7 (sCall 1 m_law_units (aC (sV 5) aN)))
def oB4 : SS := (kSet 8 (s2 gFdiv (sCall 1 m_law_all_runs_turn (aC (sV 3) aN)) (s2 gIx (s2 gIx (sV 3) (s2 gIx (sV 6) (sK (.int 0)))) (sK (.int 1)))))
def oB5 : SS := (kSet 9 (sL gMax (aC duE aN)))
def oB6 : SS := (kIf (sB (s2 gNe (sL gRep (aC (sCall 3 m_longest_wait (aC (sV 4) (aC (sV 5) (aC (sCall 2 m_law_named (aC (sV 3) (aC (sV 6) aN))) aN)))) aN)) (sL gRep (aC (sCall 2 m_law_low (aC (sV 9) (aC (s2 gIx (sV 7) (sK (.int 1))) aN))) aN))))
    (kRet (sK (.bl false))) kN)
def oB7 : SS := (kFor (iR (aC (sK (.int 4)) aN)) (.nm 11) rB)
def outB : SS := kS (kOwnC 2 2 m_law_purse (aC (sV 0) (aC (sV 1) aN))) (kS oB1 (kS oB2 (kS oB3 (kS oB4 (kS oB5 (kS oB6 oB7))))))
theorem b_law_eq : b_law = kS (kFor (iR (aC (sK (.int 5)) aN)) (.nm 1) outB) (kRet (sK (.bl true))) := rfl
section
variable {ns : Nt} {ph : List (Int × Int)} {P : List Nat} {m : Nat}
theorem r_body (R : Al ns ph P m) {hi : Int} (hh : ∀ x ∈ agesL ns (unitL ph) (unitS ph) P m, x ≤ hi) {k : Nat} {xs : List D} (h : PuB k xs) (hk : k ≤ 100000) (x0 x1 x8 x10 x11 x12 x13 : Sl) : ∃ zs r y12 y13, rB [x0, x1, .own xs, .val (netT ns), .val (netD ns), .val (.tup (ph.map frD)), .val (plT P), .val (unT (unitL ph) (unitS ph)), x8, .val (.int (hi + pp ns (atP P m) * unitS ph)), x10, x11, x12, x13] = some (.nx, [x0, x1, .own zs, .val (netT ns), .val (netD ns), .val (.tup (ph.map frD)), .val (plT P), .val (unT (unitL ph) (unitS ph)), x8, .val (.int (hi + pp ns (atP P m) * unitS ph)), .val (.int r), x11, y12, y13]) ∧ PuB (k + 21) zs := by
  have A := R.A
  obtain ⟨r, ys, e1, sr, h1⟩ := law_run_eq h (by omega)
  have e1' : m_law_run (.bor xs :: [].map .val) = some (.int r, ys) := e1
  obtain ⟨s, g1, a1, _, x1', p0, sp, _, _⟩ := A.net (A.place (Nat.zero_le m)).2
  have w1 : gIx (tupD s) (.int 1) = some (.int (pp ns (atP P 0))) := by rw [a1]; rfl
  have tp : Sm 6 (pp ns (atP P 0)) := R.T.pp _
  have t0 : 0 < pp ns (atP P 0) * unitS ph := Int.mul_pos (A.pd (Nat.zero_le m)).1 R.H.pos
  obtain ⟨d, zs, e2, d0, d1, h2⟩ := law_draw_eq (m := pp ns (atP P 0) * unitS ph) h1 (by omega) t0 ((tp.mul R.T.c).mono (by decide))
  obtain ⟨g, e3, f1, f2, f3⟩ := first_eq R (q := r) (sr.mono (by decide))
  have bq := began_eq A (A.place (Nat.zero_le m)).2 (sr.mono (d := 2000) (by decide))
  have wr := wrote_eq A (A.place (Nat.le_refl m)).2 (f3.mono (d := 2000) (by decide))
  have gn : gNeg (.int 1) = some (.int (-1)) := rfl
  have gu : gIx (unT (unitL ph) (unitS ph)) (.int 1) = some (.int (unitS ph)) := rfl
  have wl := wait_le R (q := r - 1) hh (g := g) (by omega)
  have fa : ¬ hi + pp ns (atP P m) * unitS ph ≤ ss (unitL ph) (atP P m) + g * pp ns (atP P m) * unitS ph + ll ns (atP P m) * unitS ph - (bg ns (unitL ph) (unitS ph) P 0 r - d) := by
    unfold tm at wl
    unfold bg
    have e : (r - 1) * pp ns (atP P 0) * unitS ph = r * pp ns (atP P 0) * unitS ph - pp ns (atP P 0) * unitS ph := by
      rw [Int.mul_assoc, Int.mul_assoc, Int.sub_mul, Int.one_mul]
    rw [e] at wl
    omega
  have h_rB1 : rB1 [x0, x1, .own xs, .val (netT ns), .val (netD ns), .val (.tup (ph.map frD)), .val (plT P), .val (unT (unitL ph) (unitS ph)), x8, .val (.int (hi + pp ns (atP P m) * unitS ph)), x10, x11, x12, x13] = some (.nx, [x0, x1, .own ys, .val (netT ns), .val (netD ns), .val (.tup (ph.map frD)), .val (plT P), .val (unT (unitL ph) (unitS ph)), x8, .val (.int (hi + pp ns (atP P m) * unitS ph)), .val (.int r), x11, x12, x13]) := by
    unfold rB1
    exact kSet_to' (callM rfl rfl rfl rfl e1' rfl) rfl
  have h_rB2 : rB2 [x0, x1, .own ys, .val (netT ns), .val (netD ns), .val (.tup (ph.map frD)), .val (plT P), .val (unT (unitL ph) (unitS ph)), x8, .val (.int (hi + pp ns (atP P m) * unitS ph)), .val (.int r), x11, x12, x13] = some (.nx, [x0, x1, .own zs, .val (netT ns), .val (netD ns), .val (.tup (ph.map frD)), .val (plT P), .val (unT (unitL ph) (unitS ph)), x8, .val (.int (hi + pp ns (atP P m) * unitS ph)), .val (.int r), x11, .val (.int (bg ns (unitL ph) (unitS ph) P 0 r - d)), x13]) := by
    unfold rB2
    exact kSet_to' (s2_of (sCall_of (aC_of rfl (aC_of rfl (aC_of (s2_of rfl rfl (first_place A)) (aC_of rfl rfl)))) rfl bq) (callM rfl (aC_of (s2_of (s2_of (s2_of rfl (s2_of rfl rfl (first_place A)) g1) rfl w1) (s2_of rfl rfl gu) (gMul_eq (tp.bd (by decide)) (R.T.c.bd (by decide)))) rfl) rfl rfl e2 rfl) gSub_eq) rfl
  have h_rB3 : rB3 [x0, x1, .own zs, .val (netT ns), .val (netD ns), .val (.tup (ph.map frD)), .val (plT P), .val (unT (unitL ph) (unitS ph)), x8, .val (.int (hi + pp ns (atP P m) * unitS ph)), .val (.int r), x11, .val (.int (bg ns (unitL ph) (unitS ph) P 0 r - d)), x13] = some (.nx, [x0, x1, .own zs, .val (netT ns), .val (netD ns), .val (.tup (ph.map frD)), .val (plT P), .val (unT (unitL ph) (unitS ph)), x8, .val (.int (hi + pp ns (atP P m) * unitS ph)), .val (.int r), x11, .val (.int (bg ns (unitL ph) (unitS ph) P 0 r - d)), .val (.int g)]) := by
    unfold rB3
    exact kSet_to' (sCall_of (aC_of rfl (aC_of rfl (aC_of rfl (aC_of rfl rfl)))) rfl e3) rfl
  have h_rB4 : rB4 [x0, x1, .own zs, .val (netT ns), .val (netD ns), .val (.tup (ph.map frD)), .val (plT P), .val (unT (unitL ph) (unitS ph)), x8, .val (.int (hi + pp ns (atP P m) * unitS ph)), .val (.int r), x11, .val (.int (bg ns (unitL ph) (unitS ph) P 0 r - d)), .val (.int g)] = some (.nx, [x0, x1, .own zs, .val (netT ns), .val (netD ns), .val (.tup (ph.map frD)), .val (plT P), .val (unT (unitL ph) (unitS ph)), x8, .val (.int (hi + pp ns (atP P m) * unitS ph)), .val (.int r), x11, .val (.int (bg ns (unitL ph) (unitS ph) P 0 r - d)), .val (.int g)]) := by
    unfold rB4
    exact kIf_f (sB_of (s2_of (s2_of (sCall_of (aC_of rfl (aC_of rfl (aC_of (s2_of rfl (s1_of rfl gn) (last_place A)) (aC_of rfl rfl)))) rfl wr) rfl gSub_eq) rfl (by rw [gGe_int, decide_eq_false fa]))) rfl
  unfold rB
  exact ⟨_, _, _, _, (kS_nx h_rB1 (kS_nx h_rB2 (kS_nx h_rB3 h_rB4))), h2.mono (by omega)⟩
theorem r_loop (R : Al ns ph P m) {hi : Int} (hh : ∀ x ∈ agesL ns (unitL ph) (unitS ph) P m, x ≤ hi) (x0 x1 x8 : Sl) : ∀ (l : List Nat) (k : Nat) (xs : List D) (x10 x11 x12 x13 : Sl), PuB k xs → k + 21 * l.length ≤ 90000 → okS x10 = true → ∃ ys y10 y11 y12 y13, kLoop (.nm 11) rB (l.map fun j => .int (j : Nat)) [x0, x1, .own xs, .val (netT ns), .val (netD ns), .val (.tup (ph.map frD)), .val (plT P), .val (unT (unitL ph) (unitS ph)), x8, .val (.int (hi + pp ns (atP P m) * unitS ph)), x10, x11, x12, x13] = some (.nx, [x0, x1, .own ys, .val (netT ns), .val (netD ns), .val (.tup (ph.map frD)), .val (plT P), .val (unT (unitL ph) (unitS ph)), x8, .val (.int (hi + pp ns (atP P m) * unitS ph)), y10, y11, y12, y13]) ∧ okS y10 = true
  | [], k, xs, x10, x11, x12, x13, _, _, o => ⟨xs, x10, x11, x12, x13, rfl, o⟩
  | i :: l, k, xs, x10, x11, x12, x13, h, hk, _ => by
    simp only [List.length_cons] at hk
    obtain ⟨zs, r, y12, y13, e1, h1⟩ := r_body R hh h (by omega) x0 x1 x8 x10 (.val (.int (i : Nat))) x12 x13
    obtain ⟨us, z10, z11, z12, z13, e2, o2⟩ := r_loop R hh x0 x1 x8 l (k + 21) zs (.val (.int r)) (.val (.int (i : Nat))) y12 y13 h1 (by omega) rfl
    exact ⟨us, z10, z11, z12, z13, kLoop_nx rfl e1 e2, o2⟩
theorem due_eq (R : Al ns ph P m) {hi : Int} (h1 : hi ∈ agesL ns (unitL ph) (unitS ph) P m) (h2 : ∀ x ∈ agesL ns (unitL ph) (unitS ph) P m, x ≤ hi) (xs : List D) (x0 x1 x9 x10 x11 x12 x13 : Sl) (o : okS x10 = true) :
    ∃ zs, duE [x0, x1, .own xs, .val (netT ns), .val (netD ns), .val (.tup (ph.map frD)), .val (plT P), .val (unT (unitL ph) (unitS ph)), .val (.int (lcmL (turns ns) / pp ns (atP P 0))), x9, x10, x11, x12, x13] = some (.lst zs, [x0, x1, .own xs, .val (netT ns), .val (netD ns), .val (.tup (ph.map frD)), .val (plT P), .val (unT (unitL ph) (unitS ph)), .val (.int (lcmL (turns ns) / pp ns (atP P 0))), x9, x10, x11, x12, x13]) ∧ gMax [.lst zs] = some (.int (hi + pp ns (atP P m) * unitS ph)) := by
  have A := R.A
  have k1 := (A.many (Nat.zero_le m)).1
  have k2 := (A.many (Nat.zero_le m)).2
  have k0 : 0 < lcmL (turns ns) / pp ns (atP P 0) := Int.ediv_pos_of_pos_of_dvd (turns_pos A.st) (Int.le_of_lt (A.pd (Nat.zero_le m)).1) (A.pd (Nat.zero_le m)).2
  have wq : ∀ q : Nat, ∃ w : Int, q < (lcmL (turns ns) / pp ns (atP P 0)).toNat → m_law_wait [.val (netT ns), .val (unT (unitL ph) (unitS ph)), .val (plT P), .val (.int (q : Nat))] = some (.int w, []) ∧ w ≤ hi + pp ns (atP P m) * unitS ph ∧ ∃ g, w = tm ns (unitL ph) (unitS ph) P m g (q : Nat) ∧ (q : Nat) < carry ns (unitL ph) (unitS ph) P m g := fun q => by
    by_cases z : q < (lcmL (turns ns) / pp ns (atP P 0)).toNat
    · obtain ⟨g, e, f1, f2, f3⟩ := wait_eq R (q := (q : Nat)) ((sm60' (by omega) (by omega)).mono (by decide))
      exact ⟨_, fun _ => ⟨e, wait_le R h2 f2, g, rfl, f1⟩⟩
    · exact ⟨0, fun h => absurd h z⟩
  obtain ⟨wf, hw⟩ := Classical.axiomOfChoice wq
  obtain ⟨q, q1, q2⟩ := wait_ge R h1
  generalize hK : (lcmL (turns ns) / pp ns (atP P 0)).toNat = K at *
  have c := cLoop_map (t := .nm 10) (tt := bYes) (e := sL gInt (aC (sCall 4 m_law_wait (aC (sV 3) (aC (sV 7) (aC (sV 6) (aC (sV 10) aN))))) aN)) (ρ := [x0, x1, .own xs, .val (netT ns), .val (netD ns), .val (.tup (ph.map frD)), .val (plT P), .val (unT (unitL ph) (unitS ph)), .val (.int (lcmL (turns ns) / pp ns (atP P 0))), x9, x10, x11, x12, x13]) (g := fun j : Nat => D.int (j : Nat)) (f := fun j => D.int (wf j)) (ds := List.range' 0 K) fun j hj => by
    have jl := (List.mem_range'_1.mp hj).2
    exact turn_id (okT_1 rfl o) rfl rfl (sL_of (aC_of (sCall_of (aC_of rfl (aC_of rfl (aC_of rfl (aC_of rfl rfl)))) rfl (hw j (by omega)).1) rfl) gInt_int)
  have it := iR_len (a := aC (sV 8) aN) (ρ := [x0, x1, .own xs, .val (netT ns), .val (netD ns), .val (.tup (ph.map frD)), .val (plT P), .val (unT (unitL ph) (unitS ph)), .val (.int (lcmL (turns ns) / pp ns (atP P 0))), x9, x10, x11, x12, x13]) (n := K) (aC_of (show sV 8 _ = some (.int ((K : Nat) : Int), _) by rw [← k1]; rfl) rfl) (by omega)
  have ee := sComp_of it c (by rw [List.length_map, List.length_range']; exact Nat.le_trans k2 (by decide))
  refine ⟨_, ee, ?_⟩
  have mp : ((List.range' 0 K).map fun j : Nat => D.int (wf j)) = ((List.range' 0 K).map wf).map D.int := by rw [List.map_map]; rfl
  rw [mp]
  refine gMax_lst ?_ ?_
  · obtain ⟨_, w1, g, w2, w3⟩ := hw q (by omega)
    have b := q2 g w3
    rw [← w2] at b
    exact List.mem_map.mpr ⟨q, List.mem_range'_1.mpr ⟨by omega, by omega⟩, by omega⟩
  · intro y hy
    obtain ⟨j, hj, rfl⟩ := List.mem_map.mp hy
    have jl := (List.mem_range'_1.mp hj).2
    exact (hw j (by omega)).2.1
end
theorem out_body (ns : List Int) (i : Nat) (x2 x3 x4 x5 x6 x7 x8 x9 x10 x11 x12 x13 : Sl) (o : okS x10 = true) : ∃ y2 y3 y4 y5 y6 y7 y8 y9 y10 y11 y12 y13,
    outB [.val (.scr (ns.map .int)), .val (.int (i : Nat)), x2, x3, x4, x5, x6, x7, x8, x9, x10, x11, x12, x13] = some (.nx, [.val (.scr (ns.map .int)), .val (.int (i : Nat)), y2, y3, y4, y5, y6, y7, y8, y9, y10, y11, y12, y13]) ∧ okS y10 = true := by
  obtain ⟨q0, e0, h0⟩ := law_purse_eq ns i
  obtain ⟨nt, q1, e1, N, h1⟩ := law_net_eq h0 (by omega)
  have e1' : m_law_net (.bor q0 :: [].map .val) = some (netT nt, q1) := e1
  have e2 := law_made_eq N.ok
  obtain ⟨ph, q2, e3, F, hh, hl, h2⟩ := law_phases_fr N h1 (by omega)
  obtain ⟨P, q3, e4, hP, l5, h3⟩ := law_path_eq N h2 (by omega)
  have pl : 0 < P.length := List.length_pos_iff.mpr hP.ne
  obtain ⟨m, hm⟩ : ∃ m, P.length = m + 1 := ⟨P.length - 1, by omega⟩
  have R : Al nt ph P m := ⟨N, F, hh, hl, hP, hm, by omega⟩
  have A := R.A
  have m4 := R.m4
  have un := law_units_eq hh
  have tn := runs_turn_eq (ns := nt) A.st
  have nm : m_law_named [.val (netT nt), .val (plT P)] = some (.lst (pathD nt P), []) := law_named_eq hP.pi (by omega)
  obtain ⟨lo, hi, m1, m2, m3, _⟩ := ends A m4
  have wi := wait_is A m2 fun x hx => (m3 x hx).2
  have lw := longest_wait_eq A R.E wi
  obtain ⟨s', g1', a1', _, _, p0', sp', _, _⟩ := A.net (A.place (Nat.zero_le m)).2
  have w1' : gIx (tupD s') (.int 1) = some (.int (pp nt (atP P 0))) := by rw [a1']; rfl
  have fd' : gFdiv (.int (lcmL (turns nt))) (.int (pp nt (atP P 0))) = some (.int (lcmL (turns nt) / pp nt (atP P 0))) :=
    gFdiv_eq (A.pd (Nat.zero_le m)).1 (by rw [a1']; exact sp'.bd (by decide))
  have gu : gIx (unT (unitL ph) (unitS ph)) (.int 1) = some (.int (unitS ph)) := rfl
  have dd : Sm 401 (hi + pp nt (atP P m) * unitS ph) := (R.T.list A m4 hi m2).add' ((R.T.pp _).mul R.T.c) (by decide) (by decide)
  have ll := law_low_eq (a := hi + pp nt (atP P m) * unitS ph) hh.pos (hh.sm.mono (by decide))
  obtain ⟨z, ez⟩ := rep_low hh.pos (dd.mono (d := 1890) (by decide)) (R.T.c.mono (d := 1890) (by decide))

  have h_purse : kOwnC 2 2 m_law_purse (aC (sV 0) (aC (sV 1) aN)) [.val (.scr (ns.map .int)), .val (.int (i : Nat)), x2, x3, x4, x5, x6, x7, x8, x9, x10, x11, x12, x13] = some (.nx, [.val (.scr (ns.map .int)), .val (.int (i : Nat)), .own q0, x3, x4, x5, x6, x7, x8, x9, x10, x11, x12, x13]) := by
    exact kOwnC_to' (aC_of rfl (aC_of rfl rfl)) rfl e0 rfl
  have h_oB1 : oB1 [.val (.scr (ns.map .int)), .val (.int (i : Nat)), .own q0, x3, x4, x5, x6, x7, x8, x9, x10, x11, x12, x13] = some (.nx, [.val (.scr (ns.map .int)), .val (.int (i : Nat)), .own q1, .val (netT nt), x4, x5, x6, x7, x8, x9, x10, x11, x12, x13]) := by
    unfold oB1
    exact kSet_to' (callM rfl rfl rfl rfl e1' rfl) rfl
  have h_oB2 : oB2 [.val (.scr (ns.map .int)), .val (.int (i : Nat)), .own q1, .val (netT nt), x4, x5, x6, x7, x8, x9, x10, x11, x12, x13] = some (.nx, [.val (.scr (ns.map .int)), .val (.int (i : Nat)), .own q3, .val (netT nt), .val (netD nt), .val (.tup (ph.map frD)), .val (plT P), x7, x8, x9, x10, x11, x12, x13]) := by
    unfold oB2
    exact kTup_of (sL_of (aC_of (sCall_of (aC_of rfl rfl) rfl e2) (aC_of (callM rfl (aC_of rfl rfl) rfl rfl e3 rfl) (aC_of (callM rfl (aC_of rfl rfl) rfl rfl e4 rfl) rfl))) gTup3') rfl
  have h_oB3 : oB3 [.val (.scr (ns.map .int)), .val (.int (i : Nat)), .own q3, .val (netT nt), .val (netD nt), .val (.tup (ph.map frD)), .val (plT P), x7, x8, x9, x10, x11, x12, x13] = some (.nx, [.val (.scr (ns.map .int)), .val (.int (i : Nat)), .own q3, .val (netT nt), .val (netD nt), .val (.tup (ph.map frD)), .val (plT P), .val (unT (unitL ph) (unitS ph)), x8, x9, x10, x11, x12, x13]) := by
    unfold oB3
    exact kSet_to' (sCall_of (aC_of rfl rfl) rfl un) rfl
  have h_oB4 : oB4 [.val (.scr (ns.map .int)), .val (.int (i : Nat)), .own q3, .val (netT nt), .val (netD nt), .val (.tup (ph.map frD)), .val (plT P), .val (unT (unitL ph) (unitS ph)), x8, x9, x10, x11, x12, x13] = some (.nx, [.val (.scr (ns.map .int)), .val (.int (i : Nat)), .own q3, .val (netT nt), .val (netD nt), .val (.tup (ph.map frD)), .val (plT P), .val (unT (unitL ph) (unitS ph)), .val (.int (lcmL (turns nt) / pp nt (atP P 0))), x9, x10, x11, x12, x13]) := by
    unfold oB4
    exact kSet_to' (s2_of (sCall_of (aC_of rfl rfl) rfl tn) (s2_of (s2_of rfl (s2_of rfl rfl (first_place A)) g1') rfl w1') fd') rfl
  obtain ⟨zs, du, dm⟩ := due_eq R m2 (fun x hx => (m3 x hx).2) q3 (.val (.scr (ns.map .int))) (.val (.int (i : Nat))) x9 x10 x11 x12 x13 o
  have h_oB5 : oB5 [.val (.scr (ns.map .int)), .val (.int (i : Nat)), .own q3, .val (netT nt), .val (netD nt), .val (.tup (ph.map frD)), .val (plT P), .val (unT (unitL ph) (unitS ph)), .val (.int (lcmL (turns nt) / pp nt (atP P 0))), x9, x10, x11, x12, x13] = some (.nx, [.val (.scr (ns.map .int)), .val (.int (i : Nat)), .own q3, .val (netT nt), .val (netD nt), .val (.tup (ph.map frD)), .val (plT P), .val (unT (unitL ph) (unitS ph)), .val (.int (lcmL (turns nt) / pp nt (atP P 0))), .val (.int (hi + pp nt (atP P m) * unitS ph)), x10, x11, x12, x13]) := by
    unfold oB5
    exact kSet_to' (sL_of (aC_of du rfl) dm) rfl
  have h_oB6 : oB6 [.val (.scr (ns.map .int)), .val (.int (i : Nat)), .own q3, .val (netT nt), .val (netD nt), .val (.tup (ph.map frD)), .val (plT P), .val (unT (unitL ph) (unitS ph)), .val (.int (lcmL (turns nt) / pp nt (atP P 0))), .val (.int (hi + pp nt (atP P m) * unitS ph)), x10, x11, x12, x13] = some (.nx, [.val (.scr (ns.map .int)), .val (.int (i : Nat)), .own q3, .val (netT nt), .val (netD nt), .val (.tup (ph.map frD)), .val (plT P), .val (unT (unitL ph) (unitS ph)), .val (.int (lcmL (turns nt) / pp nt (atP P 0))), .val (.int (hi + pp nt (atP P m) * unitS ph)), x10, x11, x12, x13]) := by
    unfold oB6
    exact kIf_f (sB_of (s2_of (sL_of (aC_of (sCall_of (aC_of rfl (aC_of rfl (aC_of (sCall_of (aC_of rfl (aC_of rfl rfl)) rfl nm) rfl))) rfl lw) rfl) ez) (sL_of (aC_of (sCall_of (aC_of rfl (aC_of (s2_of rfl rfl gu) rfl)) rfl ll) rfl) ez) ne_str)) rfl
  obtain ⟨q4, y10, y11, y12, y13, lp, o2⟩ := r_loop R (fun x hx => (m3 x hx).2) (.val (.scr (ns.map .int))) (.val (.int (i : Nat))) (.val (.int (lcmL (turns nt) / pp nt (atP P 0)))) (List.range' 0 4) _ q3 x10 x11 x12 x13 h3 (by rw [List.length_range']; omega) o
  have h_oB7 : oB7 [.val (.scr (ns.map .int)), .val (.int (i : Nat)), .own q3, .val (netT nt), .val (netD nt), .val (.tup (ph.map frD)), .val (plT P), .val (unT (unitL ph) (unitS ph)), .val (.int (lcmL (turns nt) / pp nt (atP P 0))), .val (.int (hi + pp nt (atP P m) * unitS ph)), x10, x11, x12, x13] = some (.nx, [.val (.scr (ns.map .int)), .val (.int (i : Nat)), .own q4, .val (netT nt), .val (netD nt), .val (.tup (ph.map frD)), .val (plT P), .val (unT (unitL ph) (unitS ph)), .val (.int (lcmL (turns nt) / pp nt (atP P 0))), .val (.int (hi + pp nt (atP P m) * unitS ph)), y10, y11, y12, y13]) := by
    unfold oB7
    exact kFor_of (iR_const rfl (by decide)) lp
  unfold outB
  exact ⟨_, _, _, _, _, _, _, _, _, _, _, _, (kS_nx h_purse (kS_nx h_oB1 (kS_nx h_oB2 (kS_nx h_oB3 (kS_nx h_oB4 (kS_nx h_oB5 (kS_nx h_oB6 h_oB7))))))), o2⟩
theorem out_loop (ns : List Int) : ∀ (l : List Nat) (x1 x2 x3 x4 x5 x6 x7 x8 x9 x10 x11 x12 x13 : Sl), okS x10 = true → ∃ y1 y2 y3 y4 y5 y6 y7 y8 y9 y10 y11 y12 y13,
    kLoop (.nm 1) outB (l.map fun j => .int (j : Nat)) [.val (.scr (ns.map .int)), x1, x2, x3, x4, x5, x6, x7, x8, x9, x10, x11, x12, x13] = some (.nx, [.val (.scr (ns.map .int)), y1, y2, y3, y4, y5, y6, y7, y8, y9, y10, y11, y12, y13])
  | [], x1, x2, x3, x4, x5, x6, x7, x8, x9, x10, x11, x12, x13, o => ⟨x1, x2, x3, x4, x5, x6, x7, x8, x9, x10, x11, x12, x13, rfl⟩
  | i :: l, x1, x2, x3, x4, x5, x6, x7, x8, x9, x10, x11, x12, x13, o => by
    obtain ⟨y2, y3, y4, y5, y6, y7, y8, y9, y10, y11, y12, y13, e, o2⟩ := out_body ns i x2 x3 x4 x5 x6 x7 x8 x9 x10 x11 x12 x13 o
    obtain ⟨z1, z2, z3, z4, z5, z6, z7, z8, z9, z10, z11, z12, z13, e2⟩ := out_loop ns l (.val (.int (i : Nat))) y2 y3 y4 y5 y6 y7 y8 y9 y10 y11 y12 y13 o2
    exact ⟨z1, z2, z3, z4, z5, z6, z7, z8, z9, z10, z11, z12, z13, kLoop_nx rfl e e2⟩
theorem law_all : ∀ ns : List Int, ns.length ≤ 63 → ∃ o, m_law [.val (.scr (ns.map .int))] = some (.bl true, o) := by
  intro ns _
  obtain ⟨y1, y2, y3, y4, y5, y6, y7, y8, y9, y10, y11, y12, y13, e⟩ := out_loop ns (List.range' 0 5) .no .no .no .no .no .no .no .no .no .no .no .no .no rfl
  unfold m_law
  rw [b_law_eq]
  exact ⟨[], mir_rt (ρ0 := [_, _, _, _, _, _, _, _, _, _, _, _, _, _]) rfl (kS_nx (kFor_of (iR_const rfl (by decide)) e) (kRet_of rfl)) rfl⟩
end Toy

set_option Elab.async false
set_option linter.all false
set_option maxRecDepth 100000
set_option maxHeartbeats 8000000
namespace Toy
open PySem PySem.Spec PyProof.Rows L2 VS
def clsA (K0 : Addr) (K1 : Addr) : Nat → Addr
  | 0 => K0
  | _ => K1
def fldA : Nat → List Str
  | 0 => ["label", "turn", "lag", "sources"]
  | _ => ["nodes"]
theorem all_mk {l : PySem.W.OpenLaw} {w : World} {K : PySem.W.Frag} {h : Heap} {mg : Str → Option Value} {fa K0 K1 f0 f1 f2 f3 f4 f5 f6 f7 f8 f9 f10 f11 f12 f13 f14 f15 f16 f17 f18 f19 f20 f21 f22 f23 f24 f25 f26 f27 f28 f29 f30 f31 f32 f33 f34 f35 f36 f37 f38 f39 f40 f41 f42 f43 f44 f45 f46 f47 : Addr} (X : K.In h) (G : h.Ns mainGlobals mg) (hfa : mg "law" = some (.ref fa))
    {od0 an0 od1 an1 od2 an2 od3 an3 od4 an4 od5 an5 od6 an6 od7 an7 od8 an8 od9 an9 od10 an10 od11 an11 od12 an12 od13 an13 od14 an14 od15 an15 od16 an16 od17 an17 od18 an18 od19 an19 od20 an20 od21 an21 od22 an22 od23 an23 od24 an24 od25 an25 od26 an26 od27 an27 od28 an28 od29 an29 od30 an30 od31 an31 od32 an32 od33 an33 od34 an34 od35 an35 od36 an36 od37 an37 od38 an38 od39 an39 od40 an40 od41 an41 od42 an42 od43 an43 od44 an44 od45 an45 od46 an46 od47 an47 : Option Addr} {sl0 sl1 sl2 sl3 sl4 sl5 sl6 sl7 sl8 sl9 sl10 sl11 sl12 sl13 sl14 sl15 sl16 sl17 sl18 sl19 sl20 sl21 sl22 sl23 sl24 sl25 sl26 sl27 sl28 sl29 sl30 sl31 sl32 sl33 sl34 sl35 sl36 sl37 sl38 sl39 sl40 sl41 sl42 sl43 sl44 sl45 sl46 sl47 : Array (Option Value)} {oc0 kV0 dc0 pm0 cd0 ct0 oc1 kV1 dc1 pm1 cd1 ct1 oc2 kV2 dc2 pm2 cd2 ct2 oc3 kV3 dc3 pm3 cd3 ct3 oc4 kV4 dc4 pm4 cd4 ct4 oc5 kV5 dc5 pm5 cd5 ct5 oc6 kV6 dc6 pm6 cd6 ct6 oc7 kV7 dc7 pm7 cd7 ct7 oc8 kV8 dc8 pm8 cd8 ct8 oc9 kV9 dc9 pm9 cd9 ct9 oc10 kV10 dc10 pm10 cd10 ct10 oc11 kV11 dc11 pm11 cd11 ct11 oc12 kV12 dc12 pm12 cd12 ct12 oc13 kV13 dc13 pm13 cd13 ct13 oc14 kV14 dc14 pm14 cd14 ct14 oc15 kV15 dc15 pm15 cd15 ct15 oc16 kV16 dc16 pm16 cd16 ct16 oc17 kV17 dc17 pm17 cd17 ct17 oc18 kV18 dc18 pm18 cd18 ct18 oc19 kV19 dc19 pm19 cd19 ct19 oc20 kV20 dc20 pm20 cd20 ct20 oc21 kV21 dc21 pm21 cd21 ct21 oc22 kV22 dc22 pm22 cd22 ct22 oc23 kV23 dc23 pm23 cd23 ct23 oc24 kV24 dc24 pm24 cd24 ct24 oc25 kV25 dc25 pm25 cd25 ct25 oc26 kV26 dc26 pm26 cd26 ct26 oc27 kV27 dc27 pm27 cd27 ct27 oc28 kV28 dc28 pm28 cd28 ct28 oc29 kV29 dc29 pm29 cd29 ct29 oc30 kV30 dc30 pm30 cd30 ct30 oc31 kV31 dc31 pm31 cd31 ct31 oc32 kV32 dc32 pm32 cd32 ct32 oc33 kV33 dc33 pm33 cd33 ct33 oc34 kV34 dc34 pm34 cd34 ct34 oc35 kV35 dc35 pm35 cd35 ct35 oc36 kV36 dc36 pm36 cd36 ct36 oc37 kV37 dc37 pm37 cd37 ct37 oc38 kV38 dc38 pm38 cd38 ct38 oc39 kV39 dc39 pm39 cd39 ct39 oc40 kV40 dc40 pm40 cd40 ct40 oc41 kV41 dc41 pm41 cd41 ct41 oc42 kV42 dc42 pm42 cd42 ct42 oc43 kV43 dc43 pm43 cd43 ct43 oc44 kV44 dc44 pm44 cd44 ct44 oc45 kV45 dc45 pm45 cd45 ct45 oc46 kV46 dc46 pm46 cd46 ct46 oc47 kV47 dc47 pm47 cd47 ct47 : Value}
    {t_LETTERS : Tok}
    (aC0 : PySem.W.nsIn K mainGlobals "Step" = some (some (.ref K0)))
    (pg0 : PySem.W.plainGet K K0 Str.empty = true)
    (hd0 : PySem.W.hasDictIn K K0 = true)
    (po0 : PySem.W.plainOver K K0 = true)
    (sa0 : PySem.W.findIn K (.ref K0) "__setattr__" = some (some (.builtin "object.__setattr__")))
    (mk0 : PySem.W.makesIn K K0 = true)
    (kc0 : PySem.W.keepIn K (.ref K0) = true)
    (ha0 : PySem.W.findIn K (.ref K0) "__class__" = some (some (.builtin "object.__class__")))
    (mr0 : PySem.W.mroIn K K0 (.type "object") = some true)
    (na0_label : PySem.W.findIn K (.ref K0) "label" = some none)
    (na0_turn : PySem.W.findIn K (.ref K0) "turn" = some none)
    (na0_lag : PySem.W.findIn K (.ref K0) "lag" = some none)
    (na0_sources : PySem.W.findIn K (.ref K0) "sources" = some none)
    (aC1 : PySem.W.nsIn K mainGlobals "Net" = some (some (.ref K1)))
    (pg1 : PySem.W.plainGet K K1 Str.empty = true)
    (hd1 : PySem.W.hasDictIn K K1 = true)
    (po1 : PySem.W.plainOver K K1 = true)
    (sa1 : PySem.W.findIn K (.ref K1) "__setattr__" = some (some (.builtin "object.__setattr__")))
    (mk1 : PySem.W.makesIn K K1 = true)
    (kc1 : PySem.W.keepIn K (.ref K1) = true)
    (ha1 : PySem.W.findIn K (.ref K1) "__class__" = some (some (.builtin "object.__class__")))
    (mr1 : PySem.W.mroIn K K1 (.type "object") = some true)
    (na1_nodes : PySem.W.findIn K (.ref K1) "nodes" = some none)
    (hn : PySem.W.specialIn K (.builtin "object.__class__") "__get__" = some (some (.builtin "getset_descriptor.__get__")))
    (tk : PySem.W.takesIn K (.builtin "object.__class__") = some true)
    (a0 : PySem.W.nsIn K mainGlobals "_law_purse" = some (some (.ref f0)))
    (l0 : K.lookup f0 = some ⟨oc0, od0, .func (PySem.W.fnOf "_law_purse" "_law_purse" (defArgs s_law_purse) (defBody s_law_purse) (defScope s_law_purse) .none kV0 dc0 pm0 an0 cd0 ct0), sl0⟩)
    (c0 : PySem.W.codeIn K cd0 "_law_purse" = true)
    (k0 : PySem.W.keepIn K (.ref f0) = true)
    (a1 : PySem.W.nsIn K mainGlobals "_law_draw" = some (some (.ref f1)))
    (l1 : K.lookup f1 = some ⟨oc1, od1, .func (PySem.W.fnOf "_law_draw" "_law_draw" (defArgs s_law_draw) (defBody s_law_draw) (defScope s_law_draw) .none kV1 dc1 pm1 an1 cd1 ct1), sl1⟩)
    (c1 : PySem.W.codeIn K cd1 "_law_draw" = true)
    (k1 : PySem.W.keepIn K (.ref f1) = true)
    (a2 : PySem.W.nsIn K mainGlobals "_law_pick" = some (some (.ref f2)))
    (l2 : K.lookup f2 = some ⟨oc2, od2, .func (PySem.W.fnOf "_law_pick" "_law_pick" (defArgs s_law_pick) (defBody s_law_pick) (defScope s_law_pick) .none kV2 dc2 pm2 an2 cd2 ct2), sl2⟩)
    (c2 : PySem.W.codeIn K cd2 "_law_pick" = true)
    (k2 : PySem.W.keepIn K (.ref f2) = true)
    (a3 : PySem.W.nsIn K mainGlobals "_law_periods" = some (some (.ref f3)))
    (l3 : K.lookup f3 = some ⟨oc3, od3, .func (PySem.W.fnOf "_law_periods" "_law_periods" (defArgs s_law_periods) (defBody s_law_periods) (defScope s_law_periods) .none kV3 dc3 pm3 an3 cd3 ct3), sl3⟩)
    (c3 : PySem.W.codeIn K cd3 "_law_periods" = true)
    (k3 : PySem.W.keepIn K (.ref f3) = true)
    (a4 : PySem.W.nsIn K mainGlobals "_law_names" = some (some (.ref f4)))
    (l4 : K.lookup f4 = some ⟨oc4, od4, .func (PySem.W.fnOf "_law_names" "_law_names" (defArgs s_law_names) (defBody s_law_names) (defScope s_law_names) .none kV4 dc4 pm4 an4 cd4 ct4), sl4⟩)
    (c4 : PySem.W.codeIn K cd4 "_law_names" = true)
    (k4 : PySem.W.keepIn K (.ref f4) = true)
    (a5 : PySem.W.nsIn K mainGlobals "_law_net" = some (some (.ref f5)))
    (l5 : K.lookup f5 = some ⟨oc5, od5, .func (PySem.W.fnOf "_law_net" "_law_net" (defArgs s_law_net) (defBody s_law_net) (defScope s_law_net) .none kV5 dc5 pm5 an5 cd5 ct5), sl5⟩)
    (c5 : PySem.W.codeIn K cd5 "_law_net" = true)
    (k5 : PySem.W.keepIn K (.ref f5) = true)
    (a6 : PySem.W.nsIn K mainGlobals "is_name" = some (some (.ref f6)))
    (l6 : K.lookup f6 = some ⟨oc6, od6, .func (PySem.W.fnOf "is_name" "is_name" (defArgs s_is_name) (defBody s_is_name) (defScope s_is_name) .none kV6 dc6 pm6 an6 cd6 ct6), sl6⟩)
    (c6 : PySem.W.codeIn K cd6 "is_name" = true)
    (k6 : PySem.W.keepIn K (.ref f6) = true)
    (a7 : PySem.W.nsIn K mainGlobals "is_whole" = some (some (.ref f7)))
    (l7 : K.lookup f7 = some ⟨oc7, od7, .func (PySem.W.fnOf "is_whole" "is_whole" (defArgs s_is_whole) (defBody s_is_whole) (defScope s_is_whole) .none kV7 dc7 pm7 an7 cd7 ct7), sl7⟩)
    (c7 : PySem.W.codeIn K cd7 "is_whole" = true)
    (k7 : PySem.W.keepIn K (.ref f7) = true)
    (a8 : PySem.W.nsIn K mainGlobals "are_names" = some (some (.ref f8)))
    (l8 : K.lookup f8 = some ⟨oc8, od8, .func (PySem.W.fnOf "are_names" "are_names" (defArgs s_are_names) (defBody s_are_names) (defScope s_are_names) .none kV8 dc8 pm8 an8 cd8 ct8), sl8⟩)
    (c8 : PySem.W.codeIn K cd8 "are_names" = true)
    (k8 : PySem.W.keepIn K (.ref f8) = true)
    (a9 : PySem.W.findIn K (.ref K0) "__init__" = some (some (.ref f9)))
    (i9 : PySem.W.isFn K (.ref f9) = true)
    (l9 : K.lookup f9 = some ⟨oc9, od9, .func (PySem.W.fnOf "__init__" "Step.__init__" (defArgs s_Step_init) (defBody s_Step_init) (defScope s_Step_init) .none kV9 dc9 pm9 an9 cd9 ct9), sl9⟩)
    (c9 : PySem.W.codeIn K cd9 "Step.__init__" = true)
    (k9 : PySem.W.keepIn K (.ref f9) = true)
    (a10 : PySem.W.nsIn K mainGlobals "are_steps" = some (some (.ref f10)))
    (l10 : K.lookup f10 = some ⟨oc10, od10, .func (PySem.W.fnOf "are_steps" "are_steps" (defArgs s_are_steps) (defBody s_are_steps) (defScope s_are_steps) .none kV10 dc10 pm10 an10 cd10 ct10), sl10⟩)
    (c10 : PySem.W.codeIn K cd10 "are_steps" = true)
    (k10 : PySem.W.keepIn K (.ref f10) = true)
    (a11 : PySem.W.findIn K (.ref K1) "__init__" = some (some (.ref f11)))
    (i11 : PySem.W.isFn K (.ref f11) = true)
    (l11 : K.lookup f11 = some ⟨oc11, od11, .func (PySem.W.fnOf "__init__" "Net.__init__" (defArgs s_Net_init) (defBody s_Net_init) (defScope s_Net_init) .none kV11 dc11 pm11 an11 cd11 ct11), sl11⟩)
    (c11 : PySem.W.codeIn K cd11 "Net.__init__" = true)
    (k11 : PySem.W.keepIn K (.ref f11) = true)
    (a12 : PySem.W.nsIn K mainGlobals "_law_made" = some (some (.ref f12)))
    (l12 : K.lookup f12 = some ⟨oc12, od12, .func (PySem.W.fnOf "_law_made" "_law_made" (defArgs s_law_made) (defBody s_law_made) (defScope s_law_made) .none kV12 dc12 pm12 an12 cd12 ct12), sl12⟩)
    (c12 : PySem.W.codeIn K cd12 "_law_made" = true)
    (k12 : PySem.W.keepIn K (.ref f12) = true)
    (a13 : PySem.W.nsIn K mainGlobals "_law_phases" = some (some (.ref f13)))
    (l13 : K.lookup f13 = some ⟨oc13, od13, .func (PySem.W.fnOf "_law_phases" "_law_phases" (defArgs s_law_phases) (defBody s_law_phases) (defScope s_law_phases) .none kV13 dc13 pm13 an13 cd13 ct13), sl13⟩)
    (c13 : PySem.W.codeIn K cd13 "_law_phases" = true)
    (k13 : PySem.W.keepIn K (.ref f13) = true)
    (a14 : PySem.W.nsIn K mainGlobals "_law_path" = some (some (.ref f14)))
    (l14 : K.lookup f14 = some ⟨oc14, od14, .func (PySem.W.fnOf "_law_path" "_law_path" (defArgs s_law_path) (defBody s_law_path) (defScope s_law_path) .none kV14 dc14 pm14 an14 cd14 ct14), sl14⟩)
    (c14 : PySem.W.codeIn K cd14 "_law_path" = true)
    (k14 : PySem.W.keepIn K (.ref f14) = true)
    (a15 : PySem.W.nsIn K mainGlobals "_law_common" = some (some (.ref f15)))
    (l15 : K.lookup f15 = some ⟨oc15, od15, .func (PySem.W.fnOf "_law_common" "_law_common" (defArgs s_law_common) (defBody s_law_common) (defScope s_law_common) .none kV15 dc15 pm15 an15 cd15 ct15), sl15⟩)
    (c15 : PySem.W.codeIn K cd15 "_law_common" = true)
    (k15 : PySem.W.keepIn K (.ref f15) = true)
    (a16 : PySem.W.nsIn K mainGlobals "_law_units" = some (some (.ref f16)))
    (l16 : K.lookup f16 = some ⟨oc16, od16, .func (PySem.W.fnOf "_law_units" "_law_units" (defArgs s_law_units) (defBody s_law_units) (defScope s_law_units) .none kV16 dc16 pm16 an16 cd16 ct16), sl16⟩)
    (c16 : PySem.W.codeIn K cd16 "_law_units" = true)
    (k16 : PySem.W.keepIn K (.ref f16) = true)
    (a17 : PySem.W.nsIn K mainGlobals "_law_all_runs_turn" = some (some (.ref f17)))
    (l17 : K.lookup f17 = some ⟨oc17, od17, .func (PySem.W.fnOf "_law_all_runs_turn" "_law_all_runs_turn" (defArgs s_law_all_runs_turn) (defBody s_law_all_runs_turn) (defScope s_law_all_runs_turn) .none kV17 dc17 pm17 an17 cd17 ct17), sl17⟩)
    (c17 : PySem.W.codeIn K cd17 "_law_all_runs_turn" = true)
    (k17 : PySem.W.keepIn K (.ref f17) = true)
    (a18 : PySem.W.nsIn K mainGlobals "_law_began" = some (some (.ref f18)))
    (l18 : K.lookup f18 = some ⟨oc18, od18, .func (PySem.W.fnOf "_law_began" "_law_began" (defArgs s_law_began) (defBody s_law_began) (defScope s_law_began) .none kV18 dc18 pm18 an18 cd18 ct18), sl18⟩)
    (c18 : PySem.W.codeIn K cd18 "_law_began" = true)
    (k18 : PySem.W.keepIn K (.ref f18) = true)
    (a19 : PySem.W.nsIn K mainGlobals "_law_wrote" = some (some (.ref f19)))
    (l19 : K.lookup f19 = some ⟨oc19, od19, .func (PySem.W.fnOf "_law_wrote" "_law_wrote" (defArgs s_law_wrote) (defBody s_law_wrote) (defScope s_law_wrote) .none kV19 dc19 pm19 an19 cd19 ct19), sl19⟩)
    (c19 : PySem.W.codeIn K cd19 "_law_wrote" = true)
    (k19 : PySem.W.keepIn K (.ref f19) = true)
    (a20 : PySem.W.nsIn K mainGlobals "_law_newest" = some (some (.ref f20)))
    (l20 : K.lookup f20 = some ⟨oc20, od20, .func (PySem.W.fnOf "_law_newest" "_law_newest" (defArgs s_law_newest) (defBody s_law_newest) (defScope s_law_newest) .none kV20 dc20 pm20 an20 cd20 ct20), sl20⟩)
    (c20 : PySem.W.codeIn K cd20 "_law_newest" = true)
    (k20 : PySem.W.keepIn K (.ref f20) = true)
    (a21 : PySem.W.nsIn K mainGlobals "_law_carried" = some (some (.ref f21)))
    (l21 : K.lookup f21 = some ⟨oc21, od21, .func (PySem.W.fnOf "_law_carried" "_law_carried" (defArgs s_law_carried) (defBody s_law_carried) (defScope s_law_carried) .none kV21 dc21 pm21 an21 cd21 ct21), sl21⟩)
    (c21 : PySem.W.codeIn K cd21 "_law_carried" = true)
    (k21 : PySem.W.keepIn K (.ref f21) = true)
    (a22 : PySem.W.nsIn K mainGlobals "_law_first_that_carries" = some (some (.ref f22)))
    (l22 : K.lookup f22 = some ⟨oc22, od22, .func (PySem.W.fnOf "_law_first_that_carries" "_law_first_that_carries" (defArgs s_law_first_that_carries) (defBody s_law_first_that_carries) (defScope s_law_first_that_carries) .none kV22 dc22 pm22 an22 cd22 ct22), sl22⟩)
    (c22 : PySem.W.codeIn K cd22 "_law_first_that_carries" = true)
    (k22 : PySem.W.keepIn K (.ref f22) = true)
    (a23 : PySem.W.nsIn K mainGlobals "_law_wait" = some (some (.ref f23)))
    (l23 : K.lookup f23 = some ⟨oc23, od23, .func (PySem.W.fnOf "_law_wait" "_law_wait" (defArgs s_law_wait) (defBody s_law_wait) (defScope s_law_wait) .none kV23 dc23 pm23 an23 cd23 ct23), sl23⟩)
    (c23 : PySem.W.codeIn K cd23 "_law_wait" = true)
    (k23 : PySem.W.keepIn K (.ref f23) = true)
    (a24 : PySem.W.nsIn K mainGlobals "_law_named" = some (some (.ref f24)))
    (l24 : K.lookup f24 = some ⟨oc24, od24, .func (PySem.W.fnOf "_law_named" "_law_named" (defArgs s_law_named) (defBody s_law_named) (defScope s_law_named) .none kV24 dc24 pm24 an24 cd24 ct24), sl24⟩)
    (c24 : PySem.W.codeIn K cd24 "_law_named" = true)
    (k24 : PySem.W.keepIn K (.ref f24) = true)
    (a25 : PySem.W.nsIn K mainGlobals "check_net" = some (some (.ref f25)))
    (l25 : K.lookup f25 = some ⟨oc25, od25, .func (PySem.W.fnOf "check_net" "check_net" (defArgs s_check_net) (defBody s_check_net) (defScope s_check_net) .none kV25 dc25 pm25 an25 cd25 ct25), sl25⟩)
    (c25 : PySem.W.codeIn K cd25 "check_net" = true)
    (k25 : PySem.W.keepIn K (.ref f25) = true)
    (a26 : PySem.W.nsIn K mainGlobals "is_fraction" = some (some (.ref f26)))
    (l26 : K.lookup f26 = some ⟨oc26, od26, .func (PySem.W.fnOf "is_fraction" "is_fraction" (defArgs s_is_fraction) (defBody s_is_fraction) (defScope s_is_fraction) .none kV26 dc26 pm26 an26 cd26 ct26), sl26⟩)
    (c26 : PySem.W.codeIn K cd26 "is_fraction" = true)
    (k26 : PySem.W.keepIn K (.ref f26) = true)
    (a27 : PySem.W.nsIn K mainGlobals "check_phases" = some (some (.ref f27)))
    (l27 : K.lookup f27 = some ⟨oc27, od27, .func (PySem.W.fnOf "check_phases" "check_phases" (defArgs s_check_phases) (defBody s_check_phases) (defScope s_check_phases) .none kV27 dc27 pm27 an27 cd27 ct27), sl27⟩)
    (c27 : PySem.W.codeIn K cd27 "check_phases" = true)
    (k27 : PySem.W.keepIn K (.ref f27) = true)
    (a28 : PySem.W.nsIn K mainGlobals "check_net_and_phases" = some (some (.ref f28)))
    (l28 : K.lookup f28 = some ⟨oc28, od28, .func (PySem.W.fnOf "check_net_and_phases" "check_net_and_phases" (defArgs s_check_net_and_phases) (defBody s_check_net_and_phases) (defScope s_check_net_and_phases) .none kV28 dc28 pm28 an28 cd28 ct28), sl28⟩)
    (c28 : PySem.W.codeIn K cd28 "check_net_and_phases" = true)
    (k28 : PySem.W.keepIn K (.ref f28) = true)
    (a29 : PySem.W.nsIn K mainGlobals "place_of" = some (some (.ref f29)))
    (l29 : K.lookup f29 = some ⟨oc29, od29, .func (PySem.W.fnOf "place_of" "place_of" (defArgs s_place_of) (defBody s_place_of) (defScope s_place_of) .none kV29 dc29 pm29 an29 cd29 ct29), sl29⟩)
    (c29 : PySem.W.codeIn K cd29 "place_of" = true)
    (k29 : PySem.W.keepIn K (.ref f29) = true)
    (a30 : PySem.W.nsIn K mainGlobals "check_path" = some (some (.ref f30)))
    (l30 : K.lookup f30 = some ⟨oc30, od30, .func (PySem.W.fnOf "check_path" "check_path" (defArgs s_check_path) (defBody s_check_path) (defScope s_check_path) .none kV30 dc30 pm30 an30 cd30 ct30), sl30⟩)
    (c30 : PySem.W.codeIn K cd30 "check_path" = true)
    (k30 : PySem.W.keepIn K (.ref f30) = true)
    (a31 : PySem.W.nsIn K mainGlobals "common_divisor" = some (some (.ref f31)))
    (l31 : K.lookup f31 = some ⟨oc31, od31, .func (PySem.W.fnOf "common_divisor" "common_divisor" (defArgs s_common_divisor) (defBody s_common_divisor) (defScope s_common_divisor) .none kV31 dc31 pm31 an31 cd31 ct31), sl31⟩)
    (c31 : PySem.W.codeIn K cd31 "common_divisor" = true)
    (k31 : PySem.W.keepIn K (.ref f31) = true)
    (a32 : PySem.W.nsIn K mainGlobals "common_multiple" = some (some (.ref f32)))
    (l32 : K.lookup f32 = some ⟨oc32, od32, .func (PySem.W.fnOf "common_multiple" "common_multiple" (defArgs s_common_multiple) (defBody s_common_multiple) (defScope s_common_multiple) .none kV32 dc32 pm32 an32 cd32 ct32), sl32⟩)
    (c32 : PySem.W.codeIn K cd32 "common_multiple" = true)
    (k32 : PySem.W.keepIn K (.ref f32) = true)
    (a33 : PySem.W.nsIn K mainGlobals "in_units" = some (some (.ref f33)))
    (l33 : K.lookup f33 = some ⟨oc33, od33, .func (PySem.W.fnOf "in_units" "in_units" (defArgs s_in_units) (defBody s_in_units) (defScope s_in_units) .none kV33 dc33 pm33 an33 cd33 ct33), sl33⟩)
    (c33 : PySem.W.codeIn K cd33 "in_units" = true)
    (k33 : PySem.W.keepIn K (.ref f33) = true)
    (a34 : PySem.W.nsIn K mainGlobals "places_of" = some (some (.ref f34)))
    (l34 : K.lookup f34 = some ⟨oc34, od34, .func (PySem.W.fnOf "places_of" "places_of" (defArgs s_places_of) (defBody s_places_of) (defScope s_places_of) .none kV34 dc34 pm34 an34 cd34 ct34), sl34⟩)
    (c34 : PySem.W.codeIn K cd34 "places_of" = true)
    (k34 : PySem.W.keepIn K (.ref f34) = true)
    (a35 : PySem.W.nsIn K mainGlobals "whole_turn" = some (some (.ref f35)))
    (l35 : K.lookup f35 = some ⟨oc35, od35, .func (PySem.W.fnOf "whole_turn" "whole_turn" (defArgs s_whole_turn) (defBody s_whole_turn) (defScope s_whole_turn) .none kV35 dc35 pm35 an35 cd35 ct35), sl35⟩)
    (c35 : PySem.W.codeIn K cd35 "whole_turn" = true)
    (k35 : PySem.W.keepIn K (.ref f35) = true)
    (a36 : PySem.W.nsIn K mainGlobals "runs_in_turn" = some (some (.ref f36)))
    (l36 : K.lookup f36 = some ⟨oc36, od36, .func (PySem.W.fnOf "runs_in_turn" "runs_in_turn" (defArgs s_runs_in_turn) (defBody s_runs_in_turn) (defScope s_runs_in_turn) .none kV36 dc36 pm36 an36 cd36 ct36), sl36⟩)
    (c36 : PySem.W.codeIn K cd36 "runs_in_turn" = true)
    (k36 : PySem.W.keepIn K (.ref f36) = true)
    (a37 : PySem.W.nsIn K mainGlobals "run_read" = some (some (.ref f37)))
    (l37 : K.lookup f37 = some ⟨oc37, od37, .func (PySem.W.fnOf "run_read" "run_read" (defArgs s_run_read) (defBody s_run_read) (defScope s_run_read) .none kV37 dc37 pm37 an37 cd37 ct37), sl37⟩)
    (c37 : PySem.W.codeIn K cd37 "run_read" = true)
    (k37 : PySem.W.keepIn K (.ref f37) = true)
    (a38 : PySem.W.nsIn K mainGlobals "run_carried" = some (some (.ref f38)))
    (l38 : K.lookup f38 = some ⟨oc38, od38, .func (PySem.W.fnOf "run_carried" "run_carried" (defArgs s_run_carried) (defBody s_run_carried) (defScope s_run_carried) .none kV38 dc38 pm38 an38 cd38 ct38), sl38⟩)
    (c38 : PySem.W.codeIn K cd38 "run_carried" = true)
    (k38 : PySem.W.keepIn K (.ref f38) = true)
    (a39 : PySem.W.nsIn K mainGlobals "all_carried" = some (some (.ref f39)))
    (l39 : K.lookup f39 = some ⟨oc39, od39, .func (PySem.W.fnOf "all_carried" "all_carried" (defArgs s_all_carried) (defBody s_all_carried) (defScope s_all_carried) .none kV39 dc39 pm39 an39 cd39 ct39), sl39⟩)
    (c39 : PySem.W.codeIn K cd39 "all_carried" = true)
    (k39 : PySem.W.keepIn K (.ref f39) = true)
    (a40 : PySem.W.nsIn K mainGlobals "time_begun" = some (some (.ref f40)))
    (l40 : K.lookup f40 = some ⟨oc40, od40, .func (PySem.W.fnOf "time_begun" "time_begun" (defArgs s_time_begun) (defBody s_time_begun) (defScope s_time_begun) .none kV40 dc40 pm40 an40 cd40 ct40), sl40⟩)
    (c40 : PySem.W.codeIn K cd40 "time_begun" = true)
    (k40 : PySem.W.keepIn K (.ref f40) = true)
    (a41 : PySem.W.nsIn K mainGlobals "time_written" = some (some (.ref f41)))
    (l41 : K.lookup f41 = some ⟨oc41, od41, .func (PySem.W.fnOf "time_written" "time_written" (defArgs s_time_written) (defBody s_time_written) (defScope s_time_written) .none kV41 dc41 pm41 an41 cd41 ct41), sl41⟩)
    (c41 : PySem.W.codeIn K cd41 "time_written" = true)
    (k41 : PySem.W.keepIn K (.ref f41) = true)
    (a42 : PySem.W.nsIn K mainGlobals "greatest_wait" = some (some (.ref f42)))
    (l42 : K.lookup f42 = some ⟨oc42, od42, .func (PySem.W.fnOf "greatest_wait" "greatest_wait" (defArgs s_greatest_wait) (defBody s_greatest_wait) (defScope s_greatest_wait) .none kV42 dc42 pm42 an42 cd42 ct42), sl42⟩)
    (c42 : PySem.W.codeIn K cd42 "greatest_wait" = true)
    (k42 : PySem.W.keepIn K (.ref f42) = true)
    (a43 : PySem.W.nsIn K mainGlobals "lowest" = some (some (.ref f43)))
    (l43 : K.lookup f43 = some ⟨oc43, od43, .func (PySem.W.fnOf "lowest" "lowest" (defArgs s_lowest) (defBody s_lowest) (defScope s_lowest) .none kV43 dc43 pm43 an43 cd43 ct43), sl43⟩)
    (c43 : PySem.W.codeIn K cd43 "lowest" = true)
    (k43 : PySem.W.keepIn K (.ref f43) = true)
    (a44 : PySem.W.nsIn K mainGlobals "longest_wait" = some (some (.ref f44)))
    (l44 : K.lookup f44 = some ⟨oc44, od44, .func (PySem.W.fnOf "longest_wait" "longest_wait" (defArgs s_longest_wait) (defBody s_longest_wait) (defScope s_longest_wait) .none kV44 dc44 pm44 an44 cd44 ct44), sl44⟩)
    (c44 : PySem.W.codeIn K cd44 "longest_wait" = true)
    (k44 : PySem.W.keepIn K (.ref f44) = true)
    (a45 : PySem.W.nsIn K mainGlobals "_law_low" = some (some (.ref f45)))
    (l45 : K.lookup f45 = some ⟨oc45, od45, .func (PySem.W.fnOf "_law_low" "_law_low" (defArgs s_law_low) (defBody s_law_low) (defScope s_law_low) .none kV45 dc45 pm45 an45 cd45 ct45), sl45⟩)
    (c45 : PySem.W.codeIn K cd45 "_law_low" = true)
    (k45 : PySem.W.keepIn K (.ref f45) = true)
    (a46 : PySem.W.nsIn K mainGlobals "_law_run" = some (some (.ref f46)))
    (l46 : K.lookup f46 = some ⟨oc46, od46, .func (PySem.W.fnOf "_law_run" "_law_run" (defArgs s_law_run) (defBody s_law_run) (defScope s_law_run) .none kV46 dc46 pm46 an46 cd46 ct46), sl46⟩)
    (c46 : PySem.W.codeIn K cd46 "_law_run" = true)
    (k46 : PySem.W.keepIn K (.ref f46) = true)
    (a47 : PySem.W.nsIn K mainGlobals "law" = some (some (.ref f47)))
    (l47 : K.lookup f47 = some ⟨oc47, od47, .func (PySem.W.fnOf "law" "law" (defArgs s_law) (defBody s_law) (defScope s_law) .none kV47 dc47 pm47 an47 cd47 ct47), sl47⟩)
    (c47 : PySem.W.codeIn K cd47 "law" = true)
    (k47 : PySem.W.keepIn K (.ref f47) = true)
    (z_abs : PySem.W.nsIn K mainGlobals "abs" = some none)
    (z_bool : PySem.W.nsIn K mainGlobals "bool" = some none)
    (z_enumerate : PySem.W.nsIn K mainGlobals "enumerate" = some none)
    (z_int : PySem.W.nsIn K mainGlobals "int" = some none)
    (z_isinstance : PySem.W.nsIn K mainGlobals "isinstance" = some none)
    (z_len : PySem.W.nsIn K mainGlobals "len" = some none)
    (z_list : PySem.W.nsIn K mainGlobals "list" = some none)
    (z_max : PySem.W.nsIn K mainGlobals "max" = some none)
    (z_range : PySem.W.nsIn K mainGlobals "range" = some none)
    (z_repr : PySem.W.nsIn K mainGlobals "repr" = some none)
    (z_set : PySem.W.nsIn K mainGlobals "set" = some none)
    (z_str : PySem.W.nsIn K mainGlobals "str" = some none)
    (z_tuple : PySem.W.nsIn K mainGlobals "tuple" = some none)
    (z_zip : PySem.W.nsIn K mainGlobals "zip" = some none)
    (v_LETTERS : PySem.W.nsIn K mainGlobals "LETTERS" = some (some (.str "abcdefghijklmnopqrstuvwxyz" t_LETTERS))) :
    ∃ fd : FuncData, (∀ (s : Shared) (v : Value), BindsTo s fd ⟨[v], []⟩ [("_law_script", v)]) ∧ ∀ base : Heap, K.In base → base.Ns mainGlobals mg → FnG l.prog w K mg base 8 fa fd ["_law_script"] (spLaw K) := by
  have e := hfa.symm.trans (PySem.W.mg_of X G a47)
  cases e
  have T : Txt ⟨K, clsA K0 K1, fldA⟩ mg := {
    n_abs := PySem.W.mg_none_of X G z_abs
    n_bool := PySem.W.mg_none_of X G z_bool
    n_enumerate := PySem.W.mg_none_of X G z_enumerate
    n_int := PySem.W.mg_none_of X G z_int
    n_isinstance := PySem.W.mg_none_of X G z_isinstance
    n_len := PySem.W.mg_none_of X G z_len
    n_list := PySem.W.mg_none_of X G z_list
    n_max := PySem.W.mg_none_of X G z_max
    n_range := PySem.W.mg_none_of X G z_range
    n_repr := PySem.W.mg_none_of X G z_repr
    n_set := PySem.W.mg_none_of X G z_set
    n_str := PySem.W.mg_none_of X G z_str
    n_tuple := PySem.W.mg_none_of X G z_tuple
    n_zip := PySem.W.mg_none_of X G z_zip
    g_LETTERS := ⟨_, PySem.W.mg_of X G v_LETTERS, ⟨_, rfl⟩⟩
    c0 := ⟨⟨pg0, hd0, po0, sa0⟩, ha0, hn, tk, mr0⟩
    g0 := PySem.W.mg_of X G aC0
    nf0 := rfl
    a0_label := na0_label
    l0_label := rfl
    a0_turn := na0_turn
    l0_turn := rfl
    a0_lag := na0_lag
    l0_lag := rfl
    a0_sources := na0_sources
    l0_sources := rfl
    c1 := ⟨⟨pg1, hd1, po1, sa1⟩, ha1, hn, tk, mr1⟩
    g1 := PySem.W.mg_of X G aC1
    nf1 := rfl
    a1_nodes := na1_nodes
    l1_nodes := rfl }
  have F0 := fun_mk (st := s_law_purse) l0 c0 k0
  have b0 := F0.binds (ps := ["_law_script", "_law_at"]) fun _ _ _ _ _ _ us hl => match us, hl with | [_, _], _ => rfl
  have F1 := fun_mk (st := s_law_draw) l1 c1 k1
  have b1 := F1.binds (ps := ["_law_purse_here", "_law_many"]) fun _ _ _ _ _ _ us hl => match us, hl with | [_, _], _ => rfl
  have F2 := fun_mk (st := s_law_pick) l2 c2 k2
  have b2 := F2.binds (ps := ["_law_purse_here", "_law_items"]) fun _ _ _ _ _ _ us hl => match us, hl with | [_, _], _ => rfl
  have F3 := fun_mk (st := s_law_periods) l3 c3 k3
  have b3 := F3.binds (ps := ["_law_purse_here"]) fun _ _ _ _ _ _ us hl => match us, hl with | [_], _ => rfl
  have F4 := fun_mk (st := s_law_names) l4 c4 k4
  have b4 := F4.binds (ps := ["_law_purse_here", "_law_many"]) fun _ _ _ _ _ _ us hl => match us, hl with | [_, _], _ => rfl
  have F5 := fun_mk (st := s_law_net) l5 c5 k5
  have b5 := F5.binds (ps := ["_law_purse_here"]) fun _ _ _ _ _ _ us hl => match us, hl with | [_], _ => rfl
  have F6 := fun_mk (st := s_is_name) l6 c6 k6
  have b6 := F6.binds (ps := ["value"]) fun _ _ _ _ _ _ us hl => match us, hl with | [_], _ => rfl
  have F7 := fun_mk (st := s_is_whole) l7 c7 k7
  have b7 := F7.binds (ps := ["value"]) fun _ _ _ _ _ _ us hl => match us, hl with | [_], _ => rfl
  have F8 := fun_mk (st := s_are_names) l8 c8 k8
  have b8 := F8.binds (ps := ["value"]) fun _ _ _ _ _ _ us hl => match us, hl with | [_], _ => rfl
  have F9 := fun_mk (st := s_Step_init) l9 c9 k9
  have b9 := F9.binds (ps := ["self", "name", "period", "delay", "reads"]) fun _ _ _ _ _ _ us hl => match us, hl with | [_, _, _, _, _], _ => rfl
  have F10 := fun_mk (st := s_are_steps) l10 c10 k10
  have b10 := F10.binds (ps := ["value"]) fun _ _ _ _ _ _ us hl => match us, hl with | [_], _ => rfl
  have F11 := fun_mk (st := s_Net_init) l11 c11 k11
  have b11 := F11.binds (ps := ["self", "steps"]) fun _ _ _ _ _ _ us hl => match us, hl with | [_, _], _ => rfl
  have F12 := fun_mk (st := s_law_made) l12 c12 k12
  have b12 := F12.binds (ps := ["_law_net_here"]) fun _ _ _ _ _ _ us hl => match us, hl with | [_], _ => rfl
  have F13 := fun_mk (st := s_law_phases) l13 c13 k13
  have b13 := F13.binds (ps := ["_law_purse_here", "_law_net_here"]) fun _ _ _ _ _ _ us hl => match us, hl with | [_, _], _ => rfl
  have F14 := fun_mk (st := s_law_path) l14 c14 k14
  have b14 := F14.binds (ps := ["_law_purse_here", "_law_net_here"]) fun _ _ _ _ _ _ us hl => match us, hl with | [_, _], _ => rfl
  have F15 := fun_mk (st := s_law_common) l15 c15 k15
  have b15 := F15.binds (ps := ["_law_numbers"]) fun _ _ _ _ _ _ us hl => match us, hl with | [_], _ => rfl
  have F16 := fun_mk (st := s_law_units) l16 c16 k16
  have b16 := F16.binds (ps := ["_law_phases_here"]) fun _ _ _ _ _ _ us hl => match us, hl with | [_], _ => rfl
  have F17 := fun_mk (st := s_law_all_runs_turn) l17 c17 k17
  have b17 := F17.binds (ps := ["_law_net_here"]) fun _ _ _ _ _ _ us hl => match us, hl with | [_], _ => rfl
  have F18 := fun_mk (st := s_law_began) l18 c18 k18
  have b18 := F18.binds (ps := ["_law_net_here", "_law_units_here", "_law_at", "_law_run_here"]) fun _ _ _ _ _ _ us hl => match us, hl with | [_, _, _, _], _ => rfl
  have F19 := fun_mk (st := s_law_wrote) l19 c19 k19
  have b19 := F19.binds (ps := ["_law_net_here", "_law_units_here", "_law_at", "_law_run_here"]) fun _ _ _ _ _ _ us hl => match us, hl with | [_, _, _, _], _ => rfl
  have F20 := fun_mk (st := s_law_newest) l20 c20 k20
  have b20 := F20.binds (ps := ["_law_net_here", "_law_units_here", "_law_reader", "_law_source", "_law_run_here"]) fun _ _ _ _ _ _ us hl => match us, hl with | [_, _, _, _, _], _ => rfl
  have F21 := fun_mk (st := s_law_carried) l21 c21 k21
  have b21 := F21.binds (ps := ["_law_net_here", "_law_units_here", "_law_places", "_law_run_here"]) fun _ _ _ _ _ _ us hl => match us, hl with | [_, _, _, _], _ => rfl
  have F22 := fun_mk (st := s_law_first_that_carries) l22 c22 k22
  have b22 := F22.binds (ps := ["_law_net_here", "_law_units_here", "_law_places", "_law_source"]) fun _ _ _ _ _ _ us hl => match us, hl with | [_, _, _, _], _ => rfl
  have F23 := fun_mk (st := s_law_wait) l23 c23 k23
  have b23 := F23.binds (ps := ["_law_net_here", "_law_units_here", "_law_places", "_law_source"]) fun _ _ _ _ _ _ us hl => match us, hl with | [_, _, _, _], _ => rfl
  have F24 := fun_mk (st := s_law_named) l24 c24 k24
  have b24 := F24.binds (ps := ["_law_net_here", "_law_places"]) fun _ _ _ _ _ _ us hl => match us, hl with | [_, _], _ => rfl
  have F25 := fun_mk (st := s_check_net) l25 c25 k25
  have b25 := F25.binds (ps := ["value"]) fun _ _ _ _ _ _ us hl => match us, hl with | [_], _ => rfl
  have F26 := fun_mk (st := s_is_fraction) l26 c26 k26
  have b26 := F26.binds (ps := ["value"]) fun _ _ _ _ _ _ us hl => match us, hl with | [_], _ => rfl
  have F27 := fun_mk (st := s_check_phases) l27 c27 k27
  have b27 := F27.binds (ps := ["net", "value"]) fun _ _ _ _ _ _ us hl => match us, hl with | [_, _], _ => rfl
  have F28 := fun_mk (st := s_check_net_and_phases) l28 c28 k28
  have b28 := F28.binds (ps := ["net", "phases"]) fun _ _ _ _ _ _ us hl => match us, hl with | [_, _], _ => rfl
  have F29 := fun_mk (st := s_place_of) l29 c29 k29
  have b29 := F29.binds (ps := ["net", "name"]) fun _ _ _ _ _ _ us hl => match us, hl with | [_, _], _ => rfl
  have F30 := fun_mk (st := s_check_path) l30 c30 k30
  have b30 := F30.binds (ps := ["net", "value"]) fun _ _ _ _ _ _ us hl => match us, hl with | [_, _], _ => rfl
  have F31 := fun_mk (st := s_common_divisor) l31 c31 k31
  have b31 := F31.binds (ps := ["one", "other"]) fun _ _ _ _ _ _ us hl => match us, hl with | [_, _], _ => rfl
  have F32 := fun_mk (st := s_common_multiple) l32 c32 k32
  have b32 := F32.binds (ps := ["numbers"]) fun _ _ _ _ _ _ us hl => match us, hl with | [_], _ => rfl
  have F33 := fun_mk (st := s_in_units) l33 c33 k33
  have b33 := F33.binds (ps := ["phases"]) fun _ _ _ _ _ _ us hl => match us, hl with | [_], _ => rfl
  have F34 := fun_mk (st := s_places_of) l34 c34 k34
  have b34 := F34.binds (ps := ["net", "path"]) fun _ _ _ _ _ _ us hl => match us, hl with | [_, _], _ => rfl
  have F35 := fun_mk (st := s_whole_turn) l35 c35 k35
  have b35 := F35.binds (ps := ["net"]) fun _ _ _ _ _ _ us hl => match us, hl with | [_], _ => rfl
  have F36 := fun_mk (st := s_runs_in_turn) l36 c36 k36
  have b36 := F36.binds (ps := ["net", "place"]) fun _ _ _ _ _ _ us hl => match us, hl with | [_, _], _ => rfl
  have F37 := fun_mk (st := s_run_read) l37 c37 k37
  have b37 := F37.binds (ps := ["net", "starts", "scale", "reader", "source", "run"]) fun _ _ _ _ _ _ us hl => match us, hl with | [_, _, _, _, _, _], _ => rfl
  have F38 := fun_mk (st := s_run_carried) l38 c38 k38
  have b38 := F38.binds (ps := ["net", "starts", "scale", "places", "run"]) fun _ _ _ _ _ _ us hl => match us, hl with | [_, _, _, _, _], _ => rfl
  have F39 := fun_mk (st := s_all_carried) l39 c39 k39
  have b39 := F39.binds (ps := ["net", "starts", "scale", "places"]) fun _ _ _ _ _ _ us hl => match us, hl with | [_, _, _, _], _ => rfl
  have F40 := fun_mk (st := s_time_begun) l40 c40 k40
  have b40 := F40.binds (ps := ["net", "starts", "scale", "place", "run"]) fun _ _ _ _ _ _ us hl => match us, hl with | [_, _, _, _, _], _ => rfl
  have F41 := fun_mk (st := s_time_written) l41 c41 k41
  have b41 := F41.binds (ps := ["net", "starts", "scale", "place", "run"]) fun _ _ _ _ _ _ us hl => match us, hl with | [_, _, _, _, _], _ => rfl
  have F42 := fun_mk (st := s_greatest_wait) l42 c42 k42
  have b42 := F42.binds (ps := ["net", "starts", "scale", "places"]) fun _ _ _ _ _ _ us hl => match us, hl with | [_, _, _, _], _ => rfl
  have F43 := fun_mk (st := s_lowest) l43 c43 k43
  have b43 := F43.binds (ps := ["number", "total"]) fun _ _ _ _ _ _ us hl => match us, hl with | [_, _], _ => rfl
  have F44 := fun_mk (st := s_longest_wait) l44 c44 k44
  have b44 := F44.binds (ps := ["net", "phases", "path"]) fun _ _ _ _ _ _ us hl => match us, hl with | [_, _, _], _ => rfl
  have F45 := fun_mk (st := s_law_low) l45 c45 k45
  have b45 := F45.binds (ps := ["_law_number", "_law_total"]) fun _ _ _ _ _ _ us hl => match us, hl with | [_, _], _ => rfl
  have F46 := fun_mk (st := s_law_run) l46 c46 k46
  have b46 := F46.binds (ps := ["_law_purse_here"]) fun _ _ _ _ _ _ us hl => match us, hl with | [_], _ => rfl
  have F47 := fun_mk (st := s_law) l47 c47 k47
  have b47 := F47.binds (ps := ["_law_script"]) fun _ _ _ _ _ _ us hl => match us, hl with | [_], _ => rfl
  refine ⟨PySem.W.fnOf "law" "law" (defArgs s_law) (defBody s_law) (defScope s_law) .none kV47 dc47 pm47 an47 cd47 ct47, fun s v => .of_eq rfl, fun base _ _ => ?_⟩
  have O0 := ok_law_purse (P := l.prog) (w := w) (base := base) (G := ⟨K, clsA K0 K1, fldA⟩) T F0 
  have C__law_purse : CalM l.prog w ⟨K, clsA K0 K1, fldA⟩ mg base "_law_purse" 1 2 m_law_purse := ⟨_, _, _, PySem.W.mg_of X G a0, k0, b0, O0⟩
  have O1 := ok_law_draw (P := l.prog) (w := w) (base := base) (G := ⟨K, clsA K0 K1, fldA⟩) T F1 
  have C__law_draw : Cal l.prog w ⟨K, clsA K0 K1, fldA⟩ mg base "_law_draw" 1 2 m_law_draw := ⟨_, _, _, PySem.W.mg_of X G a1, k1, b1, O1⟩
  have O2 := ok_law_pick (P := l.prog) (w := w) (base := base) (G := ⟨K, clsA K0 K1, fldA⟩) T F2 C__law_draw
  have C__law_pick : Cal l.prog w ⟨K, clsA K0 K1, fldA⟩ mg base "_law_pick" 2 2 m_law_pick := ⟨_, _, _, PySem.W.mg_of X G a2, k2, b2, O2⟩
  have O3 := ok_law_periods (P := l.prog) (w := w) (base := base) (G := ⟨K, clsA K0 K1, fldA⟩) T F3 C__law_pick C__law_draw
  have C__law_periods : Cal l.prog w ⟨K, clsA K0 K1, fldA⟩ mg base "_law_periods" 3 1 m_law_periods := ⟨_, _, _, PySem.W.mg_of X G a3, k3, b3, O3⟩
  have O4 := ok_law_names (P := l.prog) (w := w) (base := base) (G := ⟨K, clsA K0 K1, fldA⟩) T F4 C__law_draw C__law_pick
  have C__law_names : Cal l.prog w ⟨K, clsA K0 K1, fldA⟩ mg base "_law_names" 3 2 m_law_names := ⟨_, _, _, PySem.W.mg_of X G a4, k4, b4, O4⟩
  have O5 := ok_law_net (P := l.prog) (w := w) (base := base) (G := ⟨K, clsA K0 K1, fldA⟩) T F5 C__law_periods C__law_names C__law_draw C__law_pick
  have C__law_net : Cal l.prog w ⟨K, clsA K0 K1, fldA⟩ mg base "_law_net" 4 1 m_law_net := ⟨_, _, _, PySem.W.mg_of X G a5, k5, b5, O5⟩
  have O6 := ok_is_name (P := l.prog) (w := w) (base := base) (G := ⟨K, clsA K0 K1, fldA⟩) T F6 
  have C_is_name : Cal l.prog w ⟨K, clsA K0 K1, fldA⟩ mg base "is_name" 1 1 m_is_name := ⟨_, _, _, PySem.W.mg_of X G a6, k6, b6, O6⟩
  have O7 := ok_is_whole (P := l.prog) (w := w) (base := base) (G := ⟨K, clsA K0 K1, fldA⟩) T F7 
  have C_is_whole : Cal l.prog w ⟨K, clsA K0 K1, fldA⟩ mg base "is_whole" 1 1 m_is_whole := ⟨_, _, _, PySem.W.mg_of X G a7, k7, b7, O7⟩
  have O8 := ok_are_names (P := l.prog) (w := w) (base := base) (G := ⟨K, clsA K0 K1, fldA⟩) T F8 C_is_name
  have C_are_names : Cal l.prog w ⟨K, clsA K0 K1, fldA⟩ mg base "are_names" 2 1 m_are_names := ⟨_, _, _, PySem.W.mg_of X G a8, k8, b8, O8⟩
  have O9 := ok_Step_init (P := l.prog) (w := w) (base := base) (G := ⟨K, clsA K0 K1, fldA⟩) T F9 C_is_name C_is_whole C_are_names
  have C_Step : CalC l.prog w ⟨K, clsA K0 K1, fldA⟩ mg base "Step" 3 5 0 m_Step_init := ⟨_, _, _, PySem.W.mg_of X G aC0, ⟨mk0, a9, i9, kc0⟩, b9, O9⟩
  have O10 := ok_are_steps (P := l.prog) (w := w) (base := base) (G := ⟨K, clsA K0 K1, fldA⟩) T F10 C_are_names
  have C_are_steps : Cal l.prog w ⟨K, clsA K0 K1, fldA⟩ mg base "are_steps" 3 1 m_are_steps := ⟨_, _, _, PySem.W.mg_of X G a10, k10, b10, O10⟩
  have O11 := ok_Net_init (P := l.prog) (w := w) (base := base) (G := ⟨K, clsA K0 K1, fldA⟩) T F11 C_are_steps
  have C_Net : CalC l.prog w ⟨K, clsA K0 K1, fldA⟩ mg base "Net" 4 2 1 m_Net_init := ⟨_, _, _, PySem.W.mg_of X G aC1, ⟨mk1, a11, i11, kc1⟩, b11, O11⟩
  have O12 := ok_law_made (P := l.prog) (w := w) (base := base) (G := ⟨K, clsA K0 K1, fldA⟩) T F12 C_Step C_Net
  have C__law_made : Cal l.prog w ⟨K, clsA K0 K1, fldA⟩ mg base "_law_made" 6 1 m_law_made := ⟨_, _, _, PySem.W.mg_of X G a12, k12, b12, O12⟩
  have O13 := ok_law_phases (P := l.prog) (w := w) (base := base) (G := ⟨K, clsA K0 K1, fldA⟩) T F13 C__law_pick C__law_draw
  have C__law_phases : Cal l.prog w ⟨K, clsA K0 K1, fldA⟩ mg base "_law_phases" 3 2 m_law_phases := ⟨_, _, _, PySem.W.mg_of X G a13, k13, b13, O13⟩
  have O14 := ok_law_path (P := l.prog) (w := w) (base := base) (G := ⟨K, clsA K0 K1, fldA⟩) T F14 C__law_draw C__law_pick
  have C__law_path : Cal l.prog w ⟨K, clsA K0 K1, fldA⟩ mg base "_law_path" 3 2 m_law_path := ⟨_, _, _, PySem.W.mg_of X G a14, k14, b14, O14⟩
  have O15 := ok_law_common (P := l.prog) (w := w) (base := base) (G := ⟨K, clsA K0 K1, fldA⟩) T F15 
  have C__law_common : Cal l.prog w ⟨K, clsA K0 K1, fldA⟩ mg base "_law_common" 1 1 m_law_common := ⟨_, _, _, PySem.W.mg_of X G a15, k15, b15, O15⟩
  have O16 := ok_law_units (P := l.prog) (w := w) (base := base) (G := ⟨K, clsA K0 K1, fldA⟩) T F16 C__law_common
  have C__law_units : Cal l.prog w ⟨K, clsA K0 K1, fldA⟩ mg base "_law_units" 2 1 m_law_units := ⟨_, _, _, PySem.W.mg_of X G a16, k16, b16, O16⟩
  have O17 := ok_law_all_runs_turn (P := l.prog) (w := w) (base := base) (G := ⟨K, clsA K0 K1, fldA⟩) T F17 C__law_common
  have C__law_all_runs_turn : Cal l.prog w ⟨K, clsA K0 K1, fldA⟩ mg base "_law_all_runs_turn" 2 1 m_law_all_runs_turn := ⟨_, _, _, PySem.W.mg_of X G a17, k17, b17, O17⟩
  have O18 := ok_law_began (P := l.prog) (w := w) (base := base) (G := ⟨K, clsA K0 K1, fldA⟩) T F18 
  have C__law_began : Cal l.prog w ⟨K, clsA K0 K1, fldA⟩ mg base "_law_began" 1 4 m_law_began := ⟨_, _, _, PySem.W.mg_of X G a18, k18, b18, O18⟩
  have O19 := ok_law_wrote (P := l.prog) (w := w) (base := base) (G := ⟨K, clsA K0 K1, fldA⟩) T F19 C__law_began
  have C__law_wrote : Cal l.prog w ⟨K, clsA K0 K1, fldA⟩ mg base "_law_wrote" 2 4 m_law_wrote := ⟨_, _, _, PySem.W.mg_of X G a19, k19, b19, O19⟩
  have O20 := ok_law_newest (P := l.prog) (w := w) (base := base) (G := ⟨K, clsA K0 K1, fldA⟩) T F20 C__law_began C__law_wrote
  have C__law_newest : Cal l.prog w ⟨K, clsA K0 K1, fldA⟩ mg base "_law_newest" 3 5 m_law_newest := ⟨_, _, _, PySem.W.mg_of X G a20, k20, b20, O20⟩
  have O21 := ok_law_carried (P := l.prog) (w := w) (base := base) (G := ⟨K, clsA K0 K1, fldA⟩) T F21 C__law_newest
  have C__law_carried : Cal l.prog w ⟨K, clsA K0 K1, fldA⟩ mg base "_law_carried" 4 4 m_law_carried := ⟨_, _, _, PySem.W.mg_of X G a21, k21, b21, O21⟩
  have O22 := ok_law_first_that_carries (P := l.prog) (w := w) (base := base) (G := ⟨K, clsA K0 K1, fldA⟩) T F22 C__law_began C__law_carried
  have C__law_first_that_carries : Cal l.prog w ⟨K, clsA K0 K1, fldA⟩ mg base "_law_first_that_carries" 5 4 m_law_first_that_carries := ⟨_, _, _, PySem.W.mg_of X G a22, k22, b22, O22⟩
  have O23 := ok_law_wait (P := l.prog) (w := w) (base := base) (G := ⟨K, clsA K0 K1, fldA⟩) T F23 C__law_first_that_carries C__law_wrote C__law_began
  have C__law_wait : Cal l.prog w ⟨K, clsA K0 K1, fldA⟩ mg base "_law_wait" 6 4 m_law_wait := ⟨_, _, _, PySem.W.mg_of X G a23, k23, b23, O23⟩
  have O24 := ok_law_named (P := l.prog) (w := w) (base := base) (G := ⟨K, clsA K0 K1, fldA⟩) T F24 
  have C__law_named : Cal l.prog w ⟨K, clsA K0 K1, fldA⟩ mg base "_law_named" 1 2 m_law_named := ⟨_, _, _, PySem.W.mg_of X G a24, k24, b24, O24⟩
  have O25 := ok_check_net (P := l.prog) (w := w) (base := base) (G := ⟨K, clsA K0 K1, fldA⟩) T F25 
  have C_check_net : Cal l.prog w ⟨K, clsA K0 K1, fldA⟩ mg base "check_net" 1 1 m_check_net := ⟨_, _, _, PySem.W.mg_of X G a25, k25, b25, O25⟩
  have O26 := ok_is_fraction (P := l.prog) (w := w) (base := base) (G := ⟨K, clsA K0 K1, fldA⟩) T F26 C_is_whole
  have C_is_fraction : Cal l.prog w ⟨K, clsA K0 K1, fldA⟩ mg base "is_fraction" 2 1 m_is_fraction := ⟨_, _, _, PySem.W.mg_of X G a26, k26, b26, O26⟩
  have O27 := ok_check_phases (P := l.prog) (w := w) (base := base) (G := ⟨K, clsA K0 K1, fldA⟩) T F27 C_is_fraction
  have C_check_phases : Cal l.prog w ⟨K, clsA K0 K1, fldA⟩ mg base "check_phases" 3 2 m_check_phases := ⟨_, _, _, PySem.W.mg_of X G a27, k27, b27, O27⟩
  have O28 := ok_check_net_and_phases (P := l.prog) (w := w) (base := base) (G := ⟨K, clsA K0 K1, fldA⟩) T F28 C_check_net C_check_phases
  have C_check_net_and_phases : Cal l.prog w ⟨K, clsA K0 K1, fldA⟩ mg base "check_net_and_phases" 4 2 m_check_net_and_phases := ⟨_, _, _, PySem.W.mg_of X G a28, k28, b28, O28⟩
  have O29 := ok_place_of (P := l.prog) (w := w) (base := base) (G := ⟨K, clsA K0 K1, fldA⟩) T F29 
  have C_place_of : Cal l.prog w ⟨K, clsA K0 K1, fldA⟩ mg base "place_of" 1 2 m_place_of := ⟨_, _, _, PySem.W.mg_of X G a29, k29, b29, O29⟩
  have O30 := ok_check_path (P := l.prog) (w := w) (base := base) (G := ⟨K, clsA K0 K1, fldA⟩) T F30 C_place_of
  have C_check_path : Cal l.prog w ⟨K, clsA K0 K1, fldA⟩ mg base "check_path" 2 2 m_check_path := ⟨_, _, _, PySem.W.mg_of X G a30, k30, b30, O30⟩
  have O31 := ok_common_divisor (P := l.prog) (w := w) (base := base) (G := ⟨K, clsA K0 K1, fldA⟩) T F31 
  have C_common_divisor : Cal l.prog w ⟨K, clsA K0 K1, fldA⟩ mg base "common_divisor" 1 2 m_common_divisor := ⟨_, _, _, PySem.W.mg_of X G a31, k31, b31, O31⟩
  have O32 := ok_common_multiple (P := l.prog) (w := w) (base := base) (G := ⟨K, clsA K0 K1, fldA⟩) T F32 C_common_divisor
  have C_common_multiple : Cal l.prog w ⟨K, clsA K0 K1, fldA⟩ mg base "common_multiple" 2 1 m_common_multiple := ⟨_, _, _, PySem.W.mg_of X G a32, k32, b32, O32⟩
  have O33 := ok_in_units (P := l.prog) (w := w) (base := base) (G := ⟨K, clsA K0 K1, fldA⟩) T F33 C_common_multiple
  have C_in_units : Cal l.prog w ⟨K, clsA K0 K1, fldA⟩ mg base "in_units" 3 1 m_in_units := ⟨_, _, _, PySem.W.mg_of X G a33, k33, b33, O33⟩
  have O34 := ok_places_of (P := l.prog) (w := w) (base := base) (G := ⟨K, clsA K0 K1, fldA⟩) T F34 C_place_of
  have C_places_of : Cal l.prog w ⟨K, clsA K0 K1, fldA⟩ mg base "places_of" 2 2 m_places_of := ⟨_, _, _, PySem.W.mg_of X G a34, k34, b34, O34⟩
  have O35 := ok_whole_turn (P := l.prog) (w := w) (base := base) (G := ⟨K, clsA K0 K1, fldA⟩) T F35 C_common_multiple
  have C_whole_turn : Cal l.prog w ⟨K, clsA K0 K1, fldA⟩ mg base "whole_turn" 3 1 m_whole_turn := ⟨_, _, _, PySem.W.mg_of X G a35, k35, b35, O35⟩
  have O36 := ok_runs_in_turn (P := l.prog) (w := w) (base := base) (G := ⟨K, clsA K0 K1, fldA⟩) T F36 C_whole_turn
  have C_runs_in_turn : Cal l.prog w ⟨K, clsA K0 K1, fldA⟩ mg base "runs_in_turn" 4 2 m_runs_in_turn := ⟨_, _, _, PySem.W.mg_of X G a36, k36, b36, O36⟩
  have O37 := ok_run_read (P := l.prog) (w := w) (base := base) (G := ⟨K, clsA K0 K1, fldA⟩) T F37 
  have C_run_read : Cal l.prog w ⟨K, clsA K0 K1, fldA⟩ mg base "run_read" 1 6 m_run_read := ⟨_, _, _, PySem.W.mg_of X G a37, k37, b37, O37⟩
  have O38 := ok_run_carried (P := l.prog) (w := w) (base := base) (G := ⟨K, clsA K0 K1, fldA⟩) T F38 C_run_read
  have C_run_carried : Cal l.prog w ⟨K, clsA K0 K1, fldA⟩ mg base "run_carried" 2 5 m_run_carried := ⟨_, _, _, PySem.W.mg_of X G a38, k38, b38, O38⟩
  have O39 := ok_all_carried (P := l.prog) (w := w) (base := base) (G := ⟨K, clsA K0 K1, fldA⟩) T F39 C_runs_in_turn C_run_carried
  have C_all_carried : Cal l.prog w ⟨K, clsA K0 K1, fldA⟩ mg base "all_carried" 5 4 m_all_carried := ⟨_, _, _, PySem.W.mg_of X G a39, k39, b39, O39⟩
  have O40 := ok_time_begun (P := l.prog) (w := w) (base := base) (G := ⟨K, clsA K0 K1, fldA⟩) T F40 
  have C_time_begun : Cal l.prog w ⟨K, clsA K0 K1, fldA⟩ mg base "time_begun" 1 5 m_time_begun := ⟨_, _, _, PySem.W.mg_of X G a40, k40, b40, O40⟩
  have O41 := ok_time_written (P := l.prog) (w := w) (base := base) (G := ⟨K, clsA K0 K1, fldA⟩) T F41 C_time_begun
  have C_time_written : Cal l.prog w ⟨K, clsA K0 K1, fldA⟩ mg base "time_written" 2 5 m_time_written := ⟨_, _, _, PySem.W.mg_of X G a41, k41, b41, O41⟩
  have O42 := ok_greatest_wait (P := l.prog) (w := w) (base := base) (G := ⟨K, clsA K0 K1, fldA⟩) T F42 C_all_carried C_time_written C_time_begun
  have C_greatest_wait : Cal l.prog w ⟨K, clsA K0 K1, fldA⟩ mg base "greatest_wait" 6 4 m_greatest_wait := ⟨_, _, _, PySem.W.mg_of X G a42, k42, b42, O42⟩
  have O43 := ok_lowest (P := l.prog) (w := w) (base := base) (G := ⟨K, clsA K0 K1, fldA⟩) T F43 C_common_divisor
  have C_lowest : Cal l.prog w ⟨K, clsA K0 K1, fldA⟩ mg base "lowest" 2 2 m_lowest := ⟨_, _, _, PySem.W.mg_of X G a43, k43, b43, O43⟩
  have O44 := ok_longest_wait (P := l.prog) (w := w) (base := base) (G := ⟨K, clsA K0 K1, fldA⟩) T F44 C_check_net_and_phases C_check_path C_in_units C_places_of C_greatest_wait C_lowest
  have C_longest_wait : Cal l.prog w ⟨K, clsA K0 K1, fldA⟩ mg base "longest_wait" 7 3 m_longest_wait := ⟨_, _, _, PySem.W.mg_of X G a44, k44, b44, O44⟩
  have O45 := ok_law_low (P := l.prog) (w := w) (base := base) (G := ⟨K, clsA K0 K1, fldA⟩) T F45 
  have C__law_low : Cal l.prog w ⟨K, clsA K0 K1, fldA⟩ mg base "_law_low" 1 2 m_law_low := ⟨_, _, _, PySem.W.mg_of X G a45, k45, b45, O45⟩
  have O46 := ok_law_run (P := l.prog) (w := w) (base := base) (G := ⟨K, clsA K0 K1, fldA⟩) T F46 C__law_draw C__law_pick
  have C__law_run : Cal l.prog w ⟨K, clsA K0 K1, fldA⟩ mg base "_law_run" 3 1 m_law_run := ⟨_, _, _, PySem.W.mg_of X G a46, k46, b46, O46⟩
  have O47 := ok_law (P := l.prog) (w := w) (base := base) (G := ⟨K, clsA K0 K1, fldA⟩) T F47 C__law_purse C__law_net C__law_made C__law_phases C__law_path C__law_units C__law_all_runs_turn C__law_wait C__law_named C_longest_wait C__law_low C__law_run C__law_began C__law_draw C__law_first_that_carries C__law_wrote
  exact law_okG O47 law_all
theorem walk {l : PySem.W.OpenLaw} {q : Program} {loose : List Str} {XP : (Str → Option Value) → Heap → Prop} {YP : World → Heap → Prop} {d : DefRec} {K : Params → PySem.W.Frag} (hn : l.most = some 63) (hdf : d.params.defaults = [])
    (hY : ∀ (w : World) (h : Heap), YP w h → (K w.params).In h)
    (F : ∀ (w : World) (mg : Str → Option Value) (fa : Addr) (h : Heap), (K w.params).In h → h.Ns mainGlobals mg → mg d.name = some (.ref fa) →
      ∃ fd : FuncData, (∀ (s : Shared) (u : Value), BindsTo s fd ⟨[u], []⟩ [("_law_script", u)]) ∧ ∀ base : Heap, (K w.params).In base → base.Ns mainGlobals mg → FnG l.prog w (K w.params) mg base 8 fa fd ["_law_script"] (spLaw (K w.params))) :
    PySem.W.WalkO q loose XP YP l.row.toRowW d [] (fun f vs => PySem.call f vs) :=
  walk_ofG (k := 8) (x := "_law_script") hn hdf ⟨rfl, by decide, by decide⟩ hY F
end Toy
open PySem PySem.W PyProof.Rows
set_option maxRecDepth 100000 in
set_option maxHeartbeats 0 in
theorem PySem.Challenge.cw_agedreads_k06_longest_waits_holds : PySem.Challenge.rw_agedreads_k06_longest_waits.Holds := by
  w_on; o_law; k_head; (case hw => w_witness2)
  k_fill
  refine Toy.walk (l := PySem.Challenge.rw_agedreads_k06_longest_waits) rfl rfl (fun w h Y => PySem.W.kIn_of Y) ?F
  case F =>
    intro w mg fa h KX G hmg
    refine' Toy.all_mk KX G hmg ?aC0 ?pg0 ?hd0 ?po0 ?sa0 ?mk0 ?kc0 ?ha0 ?mr0 ?na0_label ?na0_turn ?na0_lag ?na0_sources ?aC1 ?pg1 ?hd1 ?po1 ?sa1 ?mk1 ?kc1 ?ha1 ?mr1 ?na1_nodes ?hn ?tk ?a0 ?l0 ?c0 ?k0 ?a1 ?l1 ?c1 ?k1 ?a2 ?l2 ?c2 ?k2 ?a3 ?l3 ?c3 ?k3 ?a4 ?l4 ?c4 ?k4 ?a5 ?l5 ?c5 ?k5 ?a6 ?l6 ?c6 ?k6 ?a7 ?l7 ?c7 ?k7 ?a8 ?l8 ?c8 ?k8 ?a9 ?i9 ?l9 ?c9 ?k9 ?a10 ?l10 ?c10 ?k10 ?a11 ?i11 ?l11 ?c11 ?k11 ?a12 ?l12 ?c12 ?k12 ?a13 ?l13 ?c13 ?k13 ?a14 ?l14 ?c14 ?k14 ?a15 ?l15 ?c15 ?k15 ?a16 ?l16 ?c16 ?k16 ?a17 ?l17 ?c17 ?k17 ?a18 ?l18 ?c18 ?k18 ?a19 ?l19 ?c19 ?k19 ?a20 ?l20 ?c20 ?k20 ?a21 ?l21 ?c21 ?k21 ?a22 ?l22 ?c22 ?k22 ?a23 ?l23 ?c23 ?k23 ?a24 ?l24 ?c24 ?k24 ?a25 ?l25 ?c25 ?k25 ?a26 ?l26 ?c26 ?k26 ?a27 ?l27 ?c27 ?k27 ?a28 ?l28 ?c28 ?k28 ?a29 ?l29 ?c29 ?k29 ?a30 ?l30 ?c30 ?k30 ?a31 ?l31 ?c31 ?k31 ?a32 ?l32 ?c32 ?k32 ?a33 ?l33 ?c33 ?k33 ?a34 ?l34 ?c34 ?k34 ?a35 ?l35 ?c35 ?k35 ?a36 ?l36 ?c36 ?k36 ?a37 ?l37 ?c37 ?k37 ?a38 ?l38 ?c38 ?k38 ?a39 ?l39 ?c39 ?k39 ?a40 ?l40 ?c40 ?k40 ?a41 ?l41 ?c41 ?k41 ?a42 ?l42 ?c42 ?k42 ?a43 ?l43 ?c43 ?k43 ?a44 ?l44 ?c44 ?k44 ?a45 ?l45 ?c45 ?k45 ?a46 ?l46 ?c46 ?k46 ?a47 ?l47 ?c47 ?k47 ?z_abs ?z_bool ?z_enumerate ?z_int ?z_isinstance ?z_len ?z_list ?z_max ?z_range ?z_repr ?z_set ?z_str ?z_tuple ?z_zip ?v_LETTERS
    (case aC0 => k_is); (case pg0 => k_is); (case hd0 => k_is); (case po0 => k_is); (case sa0 => k_is); (case mk0 => k_is)
    (case kc0 => k_is); (case ha0 => k_is); (case mr0 => k_is); (case na0_label => k_is); (case na0_turn => k_is); (case na0_lag => k_is)
    (case na0_sources => k_is); (case aC1 => k_is); (case pg1 => k_is); (case hd1 => k_is); (case po1 => k_is); (case sa1 => k_is)
    (case mk1 => k_is); (case kc1 => k_is); (case ha1 => k_is); (case mr1 => k_is); (case na1_nodes => k_is); (case hn => k_is)
    (case tk => k_is); (case a0 => k_is); (case l0 => k_is); (case c0 => k_is); (case k0 => k_is); (case a1 => k_is)
    (case l1 => k_is); (case c1 => k_is); (case k1 => k_is); (case a2 => k_is); (case l2 => k_is); (case c2 => k_is)
    (case k2 => k_is); (case a3 => k_is); (case l3 => k_is); (case c3 => k_is); (case k3 => k_is); (case a4 => k_is)
    (case l4 => k_is); (case c4 => k_is); (case k4 => k_is); (case a5 => k_is); (case l5 => k_is); (case c5 => k_is)
    (case k5 => k_is); (case a6 => k_is); (case l6 => k_is); (case c6 => k_is); (case k6 => k_is); (case a7 => k_is)
    (case l7 => k_is); (case c7 => k_is); (case k7 => k_is); (case a8 => k_is); (case l8 => k_is); (case c8 => k_is)
    (case k8 => k_is); (case a9 => k_is); (case i9 => k_is); (case l9 => k_is); (case c9 => k_is); (case k9 => k_is)
    (case a10 => k_is); (case l10 => k_is); (case c10 => k_is); (case k10 => k_is); (case a11 => k_is); (case i11 => k_is)
    (case l11 => k_is); (case c11 => k_is); (case k11 => k_is); (case a12 => k_is); (case l12 => k_is); (case c12 => k_is)
    (case k12 => k_is); (case a13 => k_is); (case l13 => k_is); (case c13 => k_is); (case k13 => k_is); (case a14 => k_is)
    (case l14 => k_is); (case c14 => k_is); (case k14 => k_is); (case a15 => k_is); (case l15 => k_is); (case c15 => k_is)
    (case k15 => k_is); (case a16 => k_is); (case l16 => k_is); (case c16 => k_is); (case k16 => k_is); (case a17 => k_is)
    (case l17 => k_is); (case c17 => k_is); (case k17 => k_is); (case a18 => k_is); (case l18 => k_is); (case c18 => k_is)
    (case k18 => k_is); (case a19 => k_is); (case l19 => k_is); (case c19 => k_is); (case k19 => k_is); (case a20 => k_is)
    (case l20 => k_is); (case c20 => k_is); (case k20 => k_is); (case a21 => k_is); (case l21 => k_is); (case c21 => k_is)
    (case k21 => k_is); (case a22 => k_is); (case l22 => k_is); (case c22 => k_is); (case k22 => k_is); (case a23 => k_is)
    (case l23 => k_is); (case c23 => k_is); (case k23 => k_is); (case a24 => k_is); (case l24 => k_is); (case c24 => k_is)
    (case k24 => k_is); (case a25 => k_is); (case l25 => k_is); (case c25 => k_is); (case k25 => k_is); (case a26 => k_is)
    (case l26 => k_is); (case c26 => k_is); (case k26 => k_is); (case a27 => k_is); (case l27 => k_is); (case c27 => k_is)
    (case k27 => k_is); (case a28 => k_is); (case l28 => k_is); (case c28 => k_is); (case k28 => k_is); (case a29 => k_is)
    (case l29 => k_is); (case c29 => k_is); (case k29 => k_is); (case a30 => k_is); (case l30 => k_is); (case c30 => k_is)
    (case k30 => k_is); (case a31 => k_is); (case l31 => k_is); (case c31 => k_is); (case k31 => k_is); (case a32 => k_is)
    (case l32 => k_is); (case c32 => k_is); (case k32 => k_is); (case a33 => k_is); (case l33 => k_is); (case c33 => k_is)
    (case k33 => k_is); (case a34 => k_is); (case l34 => k_is); (case c34 => k_is); (case k34 => k_is); (case a35 => k_is)
    (case l35 => k_is); (case c35 => k_is); (case k35 => k_is); (case a36 => k_is); (case l36 => k_is); (case c36 => k_is)
    (case k36 => k_is); (case a37 => k_is); (case l37 => k_is); (case c37 => k_is); (case k37 => k_is); (case a38 => k_is)
    (case l38 => k_is); (case c38 => k_is); (case k38 => k_is); (case a39 => k_is); (case l39 => k_is); (case c39 => k_is)
    (case k39 => k_is); (case a40 => k_is); (case l40 => k_is); (case c40 => k_is); (case k40 => k_is); (case a41 => k_is)
    (case l41 => k_is); (case c41 => k_is); (case k41 => k_is); (case a42 => k_is); (case l42 => k_is); (case c42 => k_is)
    (case k42 => k_is); (case a43 => k_is); (case l43 => k_is); (case c43 => k_is); (case k43 => k_is); (case a44 => k_is)
    (case l44 => k_is); (case c44 => k_is); (case k44 => k_is); (case a45 => k_is); (case l45 => k_is); (case c45 => k_is)
    (case k45 => k_is); (case a46 => k_is); (case l46 => k_is); (case c46 => k_is); (case k46 => k_is); (case a47 => k_is)
    (case l47 => k_is); (case c47 => k_is); (case k47 => k_is); (case z_abs => k_is); (case z_bool => k_is); (case z_enumerate => k_is)
    (case z_int => k_is); (case z_isinstance => k_is); (case z_len => k_is); (case z_list => k_is); (case z_max => k_is); (case z_range => k_is)
    (case z_repr => k_is); (case z_set => k_is); (case z_str => k_is); (case z_tuple => k_is); (case z_zip => k_is); (case v_LETTERS => k_is)
#print axioms PySem.Challenge.cw_agedreads_k06_longest_waits_holds

