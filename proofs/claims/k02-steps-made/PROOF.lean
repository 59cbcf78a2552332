import PyProof.Rows.All
import Wide.All
import OpenK.AllK
import Wide.FinOn
import HandS.ForMost
import HandS.OwnEq
import HandS.Zip
import HandS.Conv
import HandS.Wide
import HandS.Lambda
import HandS.Words
import KE.KDictKeyed
import KE.KDictLaw
import HandS.TupAny
import HandS.IsInst
import HandS.SortInts
import HandS.RaiseMore
import HandS.Text
import HandS.Style
import KE.GoesNew
import HandS.Nested
import KE.KDictWalk
import HandS.DictComp
import KE.GoesZip
import KE.GoesMore
import HandS.Property
import KE.KOpsOwn
import PyProof.InstNe
import HandS.EndTab
import PyProof.Rows.SortStr
import HandS.SetFor
import HandS.Flt
import HandS.IterVal
import HandS.OwnIter
import HandS.Deep
import HandS.NoneIn
import KE.KDictCopyH
import PyProof.Conv_bool
import KE.KExcSuper
import HandS.ExcInit
import HandS.ExcField
import HandS.MakeKwOnly
import KE.KExcIs
import HandS.ExcIs
import HandS.Dict
import PyProof.StrOps2
import KE.RegKIsAll
import HandS.WordsExc
import PySem.Challenge.RW_agedreads_k02_steps_made
set_option Elab.async false
set_option linter.all false
set_option maxRecDepth 100000
set_option maxHeartbeats 4000000
namespace VS
abbrev St := L2.St
open PySem PySem.Spec PyProof.Rows L2

inductive D where
  | non | bl (b : Bool) | int (i : Int) | str (x : Str) | adr (a : Addr)
  | lst (xs : List D) | tup (xs : List D) | ins (c : Nat) (fs : List D) | scr (xs : List D) | dct (b : Bool) (ks : List NestedKey) (vs : List D) | exc (c : Nat) (d : D) | bth (p : Addr) (d : D)

structure Gx where
  K : PySem.W.Frag
  cls : Nat → Addr
  fld : Nat → List Str
  /-- the tables of the defs that make lambdas, and the lambdas' names -/
  T : List (Addr × Str)
  w : World
  P : Program
  mg : Str → Option Value
  base : Heap
  kl : Nat

mutual
inductive KV1 (F : Hp) : V → NestedKey → Prop
  | non : KV1 F .non .none
  | int (i : Int) : KV1 F (.int i) (.num i)
  | str (x : Str) : KV1 F (.str x) (.text x)
  | tup {a : Addr} {vs : List V} {ks : List NestedKey} : F a = some (.tup vs) → KV1s F vs ks → KV1 F (.ref a) (.tup ks)
inductive KV1s (F : Hp) : List V → List NestedKey → Prop
  | nil : KV1s F [] []
  | cons {v : V} {vs : List V} {k : NestedKey} {ks : List NestedKey} : KV1 F v k → KV1s F vs ks → KV1s F (v :: vs) (k :: ks)
end
mutual
theorem KV1.ext {F F' : Hp} (e : Ext F F') : ∀ {v : V} {k : NestedKey}, KV1 F v k → KV1 F' v k
  | _, _, .non => .non
  | _, _, .int i => .int i
  | _, _, .str x => .str x
  | _, _, .tup h r => .tup (e _ _ h) (KV1s.ext e r)
theorem KV1s.ext {F F' : Hp} (e : Ext F F') : ∀ {vs : List V} {ks : List NestedKey}, KV1s F vs ks → KV1s F' vs ks
  | _, _, .nil => .nil
  | _, _, .cons h r => .cons (KV1.ext e h) (KV1s.ext e r)
end
abbrev DEnt := NestedKey × Addr × Value
def rawO (w : World) (p : Addr) (xs : List DEnt) : HO := .ext fun h => ∃ (o : Obj) (es : Array DictEntry) (ep : Nat), h.get? p = some o ∧ o.ExactDict ∧ o.data = .dict es ep ∧ es.toList = xs.map fun x => ({ hash := x.1.hash w, key := .ref x.2.1, val := x.2.2 } : DictEntry)
def lkO : Option Obj → HO → HO
  | none, u => u
  | some od, u => .frz od u
structure DicN (w : World) (l : Option Obj) (F H : Hp) (p : Addr) (xs : List DEnt) (ks : List NestedKey) (vs : List V) : Prop where
  at_ : H p = some (lkO l (rawO w p xs))
  sys : (p == sysModules) = false
  kse : ks = xs.map (·.1)
  nd : ks.Nodup
  vse : Vals vs (xs.map (·.2.2))
  ky : ∀ x ∈ xs, KV1 F (.ref x.2.1) x.1 ∧ x.1.depth ≤ 8
  ln : xs.length ≤ 1000000
def nkOf : Key → NestedKey
  | .inl i => .num i
  | .inr x => .text x
def DicAt (w : World) (b : Bool) (l : Option Obj) (F H : Hp) (p : Addr) (ks : List NestedKey) (vs : List V) : Prop := match b with
  | true => ∃ xs, DicN w l F H p xs ks vs
  | false => ∃ kvs : List (Key × V), H p = some (lkO l (.dK kvs)) ∧ ks = kvs.map (fun x => nkOf x.1) ∧ vs = kvs.map (·.2) ∧ kvs.length ≤ 1000000
theorem DicN.ext {w : World} {l : Option Obj} {F F' H H' : Hp} {p : Addr} {xs : List DEnt} {ks : List NestedKey} {vs : List V} (e : Ext F F') (h : H p = some (lkO l (rawO w p xs)) → H' p = some (lkO l (rawO w p xs))) (d : DicN w l F H p xs ks vs) : DicN w l F' H' p xs ks vs :=
  ⟨h d.at_, d.sys, d.kse, d.nd, d.vse, fun x hx => ⟨(d.ky x hx).1.ext e, (d.ky x hx).2⟩, d.ln⟩
theorem DicAt.ext {w : World} {b : Bool} {l : Option Obj} {F F' H H' : Hp} {p : Addr} {ks : List NestedKey} {vs : List V} (e : Ext F F') (h : ∀ o, H p = some o → H' p = some o) (d : DicAt w b l F H p ks vs) : DicAt w b l F' H' p ks vs := by
  cases b with
  | true => obtain ⟨xs, d⟩ := d; exact ⟨xs, d.ext e (h _)⟩
  | false => obtain ⟨kvs, d, r⟩ := d; exact ⟨kvs, h _ d, r⟩
theorem lk_nt {l : Option Obj} {u : HO} (n : ∀ ps, u ≠ .tbl ps) : ∀ ps, lkO l u ≠ .tbl ps := fun ps z => by
  cases l with
  | none => exact n ps z
  | some od => cases z
theorem raw_nt {w : World} {p : Addr} {xs : List DEnt} : ∀ ps, rawO w p xs ≠ .tbl ps := fun ps z => by unfold rawO at z; cases z
theorem dK_nt {kvs : List (Key × V)} : ∀ ps, HO.dK kvs ≠ .tbl ps := fun ps z => by cases z
theorem DicAt.obT {w : World} {b : Bool} {l : Option Obj} {F H : Hp} {p : Addr} {ks : List NestedKey} {vs : List V} (d : DicAt w b l F H p ks vs) : ∃ o, H p = some o ∧ ∀ ps, o ≠ .tbl ps := by
  cases b with
  | true => obtain ⟨xs, d⟩ := d; exact ⟨_, d.at_, lk_nt raw_nt⟩
  | false => obtain ⟨kvs, d, r⟩ := d; exact ⟨_, d, lk_nt dK_nt⟩
theorem DicAt.ob {w : World} {b : Bool} {l : Option Obj} {F H : Hp} {p : Addr} {ks : List NestedKey} {vs : List V} (d : DicAt w b l F H p ks vs) : ∃ o, H p = some o := by
  cases b with
  | true => obtain ⟨xs, d⟩ := d; exact ⟨_, d.at_⟩
  | false => obtain ⟨kvs, d, r⟩ := d; exact ⟨_, d⟩

def exq (a C dx : Addr) : HO := .ext fun h => ∃ ox : Obj, h.get? a = some ox ∧ ox.cls = .ref C ∧ ox.dict = some dx ∧ ∃ fv, ox.data = .fields fv
mutual
inductive Rep (G : Gx) (F : Hp) : V → D → Prop
  | non : Rep G F .non .non
  | bl (b : Bool) : Rep G F (.bl b) (.bl b)
  | int (i : Int) : Rep G F (.int i) (.int i)
  | str (x : Str) : Rep G F (.str x) (.str x)
  | adr (a : Addr) : Rep G F (.ref a) (.adr a)
  | lst {a : Addr} {vs : List V} {ds : List D} : F a = some (.lst vs) → Reps G F vs ds → Rep G F (.ref a) (.lst ds)
  | scr {a : Addr} {vs : List V} {ds : List D} : SqL G.K F a vs → Reps G F vs ds → Rep G F (.ref a) (.scr ds)
  | tup {a : Addr} {vs : List V} {ds : List D} : F a = some (.tup vs) → Reps G F vs ds → Rep G F (.ref a) (.tup ds)
  | ins {a dx : Addr} {c : Nat} {fs : List (Str × V)} {ds : List D} : F a = some (.ins (G.cls c) dx fs) → fs.map (·.1) = G.fld c → Reps G F (fs.map (·.2)) ds → Rep G F (.ref a) (.ins c ds)
  | dct {a : Addr} {b : Bool} {od : Obj} {ks : List NestedKey} {vs : List V} {ds : List D} : DicAt G.w b (some od) F F a ks vs → Reps G F vs ds → Rep G F (.ref a) (.dct b ks ds)
  | exc {a dx : Addr} {c : Nat} {v : V} {d : D} : F a = some (exq a (G.cls c) dx) → F dx = some (.xd [("value", v)]) → Rep G F v d → Rep G F (.ref a) (.exc c d)
  | bth {a : Addr} {d : D} : Rep G F (.ref a) d → Rep G F (.ref a) (.bth a d)
inductive Reps (G : Gx) (F : Hp) : List V → List D → Prop
  | nil : Reps G F [] []
  | cons {v : V} {vs : List V} {d : D} {ds : List D} : Rep G F v d → Reps G F vs ds → Reps G F (v :: vs) (d :: ds)
end
mutual
theorem Rep.ext {G : Gx} {F F' : Hp} (e : Ext F F') : ∀ {v : V} {d : D}, Rep G F v d → Rep G F' v d
  | _, _, .non => .non
  | _, _, .bl b => .bl b
  | _, _, .int i => .int i
  | _, _, .str x => .str x
  | _, _, .adr a => .adr a
  | _, _, .lst h r => .lst (e _ _ h) (Reps.ext e r)
  | _, _, .scr h r => .scr (h.ext e) (Reps.ext e r)
  | _, _, .tup h r => .tup (e _ _ h) (Reps.ext e r)
  | _, _, .ins h n r => .ins (e _ _ h) n (Reps.ext e r)
  | _, _, .dct h r => .dct (h.ext e (e _)) (Reps.ext e r)
  | _, _, .exc h h2 r => .exc (e _ _ h) (e _ _ h2) (Rep.ext e r)
  | _, _, .bth r => .bth (Rep.ext e r)
theorem Reps.ext {G : Gx} {F F' : Hp} (e : Ext F F') : ∀ {vs : List V} {ds : List D}, Reps G F vs ds → Reps G F' vs ds
  | _, _, .nil => .nil
  | _, _, .cons h r => .cons (Rep.ext e h) (Reps.ext e r)
end
section
variable {G : Gx} {F : Hp}
theorem Reps.length : ∀ {vs : List V} {ds : List D}, Reps G F vs ds → vs.length = ds.length
  | _, _, .nil => rfl
  | _, _, .cons _ r => by simp [Reps.length r]
theorem Reps.get : ∀ {vs : List V} {ds : List D} {i : Nat} {d : D}, Reps G F vs ds → ds[i]? = some d → ∃ v, vs[i]? = some v ∧ Rep G F v d
  | _, _, _, _, .nil, h => by simp at h
  | _, _, 0, _, .cons h _, e => by simp at e; subst e; exact ⟨_, rfl, h⟩
  | _, _, i + 1, d, .cons _ r, e => by
    obtain ⟨v, h1, h2⟩ := Reps.get (i := i) (d := d) r (by simpa using e)
    exact ⟨v, by simpa using h1, h2⟩
theorem Reps.append : ∀ {vs ws : List V} {ds es : List D}, Reps G F vs ds → Reps G F ws es → Reps G F (vs ++ ws) (ds ++ es)
  | _, _, _, _, .nil, s => s
  | _, _, _, _, .cons h r, s => .cons h (Reps.append r s)
theorem Reps.set {v : V} {d : D} (h : Rep G F v d) : ∀ {vs : List V} {ds : List D} (i : Nat), Reps G F vs ds → Reps G F (vs.set i v) (ds.set i d)
  | _, _, _, .nil => .nil
  | _, _, 0, .cons _ r => .cons h r
  | _, _, i + 1, .cons q r => .cons q (Reps.set h i r)
theorem Reps.take : ∀ {vs : List V} {ds : List D} (n : Nat), Reps G F vs ds → Reps G F (vs.take n) (ds.take n)
  | _, _, 0, _ => by simpa using Reps.nil
  | _, _, _ + 1, .nil => .nil
  | _, _, n + 1, .cons h r => .cons h (Reps.take n r)
theorem Reps.drop : ∀ {vs : List V} {ds : List D} (n : Nat), Reps G F vs ds → Reps G F (vs.drop n) (ds.drop n)
  | _, _, 0, r => r
  | _, _, _ + 1, .nil => .nil
  | _, _, n + 1, .cons _ r => Reps.drop n r
theorem Reps.one {v : V} {d : D} (h : Rep G F v d) : Reps G F [v] [d] := .cons h .nil
end

structure TbOk (T : List (Addr × Str)) (F H : Hp) : Prop where
  t : LamX.Tabs T H
  n : ∀ p ∈ T, F p.1 = none
theorem TbOk.ext {T : List (Addr × Str)} {F H F' H' : Hp} (b : TbOk T F H) (h : ∀ p o, H p = some o → H' p = some o) (n : ∀ p o, H p = some o → F p = none → F' p = none) : TbOk T F' H' :=
  ⟨b.t.ext h, fun p hp => let ⟨_, e, _⟩ := b.t p hp; n _ _ e (b.n p hp)⟩
theorem TbOk.seal {T : List (Addr × Str)} {F H : Hp} {p : Addr} {o : HO} (b : TbOk T F H) (hh : H p = some o) (nt : ∀ ps, o ≠ .tbl ps) : TbOk T (upd F p o) H :=
  ⟨b.t, fun q hq => by
    obtain ⟨ps, e, _⟩ := b.t q hq
    have z : q.1 ≠ p := fun z => by rw [z, hh] at e; cases e; exact nt ps rfl
    rw [upd_ne z]
    exact b.n q hq⟩

theorem tabs_mod {T : List (Addr × Str)} {H H' : Hp} (t : LamX.Tabs T H) (e : ∀ b u, H b = some u → ((∃ ps, u = .tbl ps) ∨ ∃ c q, u = LamX.CodeO c q) → H' b = some u) : LamX.Tabs T H' := fun p hp => by
  obtain ⟨ps, h1, h2, h3⟩ := t p hp
  refine ⟨ps, e _ _ h1 (.inl ⟨ps, rfl⟩), h2, fun pos cv hc => ?_⟩
  obtain ⟨c, e1, e2⟩ := h3 pos cv hc
  exact ⟨c, e1, e _ _ e2 (.inr ⟨_, _, rfl⟩)⟩
theorem tabs_upd {T : List (Addr × Str)} {H : Hp} {p : Addr} {o u : HO} (t : LamX.Tabs T H) (hp : H p = some o) (n1 : ∀ ps, o ≠ .tbl ps) (n2 : ∀ c q, o ≠ LamX.CodeO c q) : LamX.Tabs T (upd H p u) := tabs_mod t fun b v e k => by
  by_cases z : b = p
  · subst z
    rw [hp] at e
    cases e
    rcases k with ⟨ps, k⟩ | ⟨c, q, k⟩
    · exact absurd k (n1 ps)
    · exact absurd k (n2 c q)
  · rw [upd_ne z]; exact e
theorem nc_lst {xs : List V} : ∀ c q, HO.lst xs ≠ LamX.CodeO c q := fun c q z => by unfold LamX.CodeO at z; cases z
theorem nc_ins {a b : Addr} {fs : List (Str × V)} : ∀ c q, HO.ins a b fs ≠ LamX.CodeO c q := fun c q z => by unfold LamX.CodeO at z; cases z
structure Keep (T : List (Addr × Str)) (B : List Addr) (F H F' H' : Hp) : Prop where
  f : Ext F F'
  fh : Ext F' H'
  h : ∀ p o, H p = some o → p ∉ B → (∀ ps, o ≠ .tbl ps) → H' p = some o
  a : ∀ p o, H p = some o → ∃ o', H' p = some o'
  n : ∀ p o, H p = some o → F p = none → F' p = none
  t : TbOk T F H → TbOk T F' H'
def LamL (o : HO) : Prop := (∃ ob, o = .frz ob (.own 0)) ∨ ∃ c q, o = LamX.CodeO c q
theorem LamL.nt {o : HO} (l : LamL o) : ∀ ps, o ≠ .tbl ps := fun ps z => by
  subst z
  rcases l with ⟨ob, l⟩ | ⟨c, q, l⟩
  · cases l
  · unfold LamX.CodeO at l; cases l
theorem nl_lst {xs : List V} : ¬ LamL (.lst xs) := fun l => by
  rcases l with ⟨ob, l⟩ | ⟨c, q, l⟩
  · cases l
  · unfold LamX.CodeO at l; cases l
theorem nl_ins {a b : Addr} {fs : List (Str × V)} : ¬ LamL (.ins a b fs) := fun l => by
  rcases l with ⟨ob, l⟩ | ⟨c, q, l⟩
  · cases l
  · unfold LamX.CodeO at l; cases l
theorem nl_dK {kvs : List (Key × V)} : ¬ LamL (.dK kvs) := fun l => by
  rcases l with ⟨ob, l⟩ | ⟨c, q, l⟩
  · cases l
  · unfold LamX.CodeO at l; cases l
theorem nc_raw {w : World} {p : Addr} {xs : List DEnt} (c : Addr) (q : Str) : rawO w p xs ≠ LamX.CodeO c q := fun z => by
  unfold rawO LamX.CodeO at z
  have e := HO.ext.inj z
  let es : Array DictEntry := (xs.map fun x => ({ hash := x.1.hash w, key := .ref x.2.1, val := x.2.2 } : DictEntry)).toArray
  let o : Obj := { cls := .type "dict", data := .dict es }
  let h : Heap := { objs := Array.replicate (p + 1) o }
  have at_ : ∀ a, h.get? a = if a < p + 1 then some o else none := fun a => by
    have g : h.objs[a]? = if a < p + 1 then some o else none := Array.getElem?_replicate
    unfold Heap.get?
    rw [g]
    by_cases z : a < p + 1
    · rw [if_pos z]
    · rw [if_neg z]
  have get : ∀ a ob, h.get? a = some ob → ob = o := fun a ob g => by
    rw [at_] at g
    split at g
    · exact (Option.some.inj g).symm
    · cases g
  have φ : (fun h : Heap => ∃ (o : Obj) (es : Array DictEntry) (ep : Nat), h.get? p = some o ∧ o.ExactDict ∧ o.data = .dict es ep ∧ es.toList = xs.map fun x => ({ hash := x.1.hash w, key := .ref x.2.1, val := x.2.2 } : DictEntry)) h := by
    refine ⟨o, es, _, ?_, ?_, rfl, ?_⟩
    · rw [at_, if_pos (Nat.lt_succ_self p)]
    · exact ⟨rfl, rfl, rfl⟩
    · simp [es]
  rw [e] at φ
  obtain ⟨oc, vs, t, h1, h2, h3⟩ := φ
  rw [get _ _ h1] at h2
  cases h2
theorem nl_raw {w : World} {p : Addr} {xs : List DEnt} : ¬ LamL (rawO w p xs) := fun l => by
  rcases l with ⟨ob, l⟩ | ⟨c, q, l⟩
  · unfold rawO at l; cases l
  · exact nc_raw c q l
theorem nl_lk {l : Option Obj} {u : HO} (n : ¬ LamL u) (no : u ≠ .own 0) : ¬ LamL (lkO l u) := fun z => by
  cases l with
  | none => exact n z
  | some od =>
    rcases z with ⟨ob, z⟩ | ⟨c, q, z⟩
    · cases z; exact no rfl
    · unfold lkO LamX.CodeO at z; cases z
theorem raw_no {w : World} {p : Addr} {xs : List DEnt} : rawO w p xs ≠ .own 0 := fun z => by unfold rawO at z; cases z
theorem dK_no {kvs : List (Key × V)} : HO.dK kvs ≠ .own 0 := fun z => by cases z
theorem DicAt.nl {w : World} {b : Bool} {l : Option Obj} {F H : Hp} {p : Addr} {ks : List NestedKey} {vs : List V} {o : HO} (d : DicAt w b l F H p ks vs) (h : H p = Option.some o) : ¬ LamL o := by
  cases b with
  | true => obtain ⟨xs, d⟩ := d; have e := d.at_; rw [h] at e; cases e; exact nl_lk nl_raw raw_no
  | false => obtain ⟨kvs, d, r⟩ := d; rw [h] at d; cases d; exact nl_lk nl_dK dK_no
def LamC (G : Gx) (L : List (Addr × HO)) (F : Hp) (f : Addr) (h : D → D → Option D) : Prop := ∀ (A : Around) (outer : List Env) (s : Shared) (H F' : Hp) (ua ub : Value) (va vb : V) (a b d : D),
  Env0 G.P G.w G.K G.mg G.base A outer s H → Room G.kl A → (∀ x ∈ L, H x.1 = some x.2 ∧ ((∃ ob, x.2 = .frz ob (.own 0)) → F' x.1 = none)) → Ext F F' → Ext F' H → TbOk G.T F' H → Rep G F' va a → Rep G F' vb b → RelV va ua → RelV vb ub → h a b = some d →
  codeAny (model G.P G.w) A (.call (.ref f) ⟨[ua, ub], []⟩) (CR CX0 outer G.P G.w H s (fun v H' => ∃ F'', Keep G.T [] F' H F'' H' ∧ Rep G F'' v d) E0) s
def LamAt (G : Gx) (F H : Hp) (f : Addr) (h : D → D → Option D) : Prop := ∃ L : List (Addr × HO), (∀ x ∈ L, H x.1 = some x.2 ∧ ((∃ ob, x.2 = .frz ob (.own 0)) → F x.1 = none) ∧ LamL x.2) ∧ (∃ (oc : Value) (od : Option Addr) (fd : FuncData) (sl : Array (Option Value)), (f, HO.frz ⟨oc, od, .func fd, sl⟩ (.own 0)) ∈ L) ∧ LamC G L F f h
theorem LamAt.move {G : Gx} {F F' H H' : Hp} {f : Addr} {h : D → D → Option D} (l : LamAt G F H f h) (e : Ext F F') (hk : ∀ p o, H p = some o → LamL o → H' p = some o ∧ (F p = none → F' p = none)) : LamAt G F' H' f h := by
  obtain ⟨L, h1, hf, h2⟩ := l
  refine ⟨L, fun x hx => ?_, hf, fun A o s H F2 ua ub va vb a b d k1 k2 k3 k4 => h2 A o s H F2 ua ub va vb a b d k1 k2 k3 (e.trans k4)⟩
  obtain ⟨a1, a2, a3⟩ := h1 x hx
  obtain ⟨b1, b2⟩ := hk _ _ a1 a3
  exact ⟨b1, fun z => b2 (a2 z), a3⟩
inductive Sl where
  | no | val (d : D) | own (xs : List D) | bor (xs : List D) | slf (c : Nat) (fs : List D) | dic (b : Bool) (ks : List NestedKey) (vs : List D) | lam (h : D → D → Option D)
abbrev Rho := List Sl
def Sl.mut : Sl → Bool
  | .own _ => true
  | .bor _ => true
  | .slf _ _ => true
  | .dic _ _ _ => true
  | _ => false

structure Ctx where
  G : Gx
  F0 : Hp
  H0 : Hp
  B : List Addr

def SlOk (c : Ctx) (F H : Hp) : Option V → Sl → Prop
  | _, .no => True
  | some v, .val d => Rep c.G F v d
  | some v, .own xs => ∃ p, v = V.ref p ∧ c.H0 p = none ∧ F p = none ∧ ∃ vs, H p = some (.lst vs) ∧ Reps c.G F vs xs
  | some v, .bor xs => ∃ p, v = V.ref p ∧ p ∈ c.B ∧ F p = none ∧ ∃ vs, H p = some (.lst vs) ∧ Reps c.G F vs xs
  | some v, .slf k ds => ∃ p, v = V.ref p ∧ p ∈ c.B ∧ F p = none ∧ ∃ dx fs, H p = some (.ins (c.G.cls k) dx fs) ∧ (∃ n, fs.map (·.1) = (c.G.fld k).take n) ∧ Reps c.G F (fs.map (·.2)) ds
  | some v, .dic b ks ds => ∃ p, v = V.ref p ∧ c.H0 p = none ∧ F p = none ∧ ∃ vs, DicAt c.G.w b none F H p ks vs ∧ Reps c.G F vs ds
  | some v, .lam h => ∃ f, v = V.ref f ∧ LamAt c.G F H f h
  | none, _ => False

structure Ok (c : Ctx) (F H : Hp) (σ : VS.St) (ρ : Rho) : Prop where
  len : σ.length = ρ.length
  f0 : Ext c.F0 F
  fh : Ext F H
  fr : ∀ p o, c.H0 p = some o → p ∉ c.B → (∀ ps, o ≠ .tbl ps) → H p = some o
  al : ∀ p o, c.H0 p = some o → ∃ o', H p = some o'
  n0 : ∀ p o, c.H0 p = some o → c.F0 p = none → F p = none
  sl : ∀ (i : Nat) s, ρ[i]? = some s → ∃ ov, σ[i]? = some ov ∧ SlOk c F H ov s
  ap : ∀ (i j : Nat) s t p q, ρ[i]? = some s → ρ[j]? = some t → s.mut = true → t.mut = true → σ[i]? = some (some (V.ref p)) → σ[j]? = some (some (V.ref q)) → p = q → i = j
  hb : ∀ p ∈ c.B, ∃ o, c.H0 p = some o
  tb : TbOk c.G.T F H

structure Grow (F H F' H' : Hp) : Prop where
  f : Ext F F'
  fh : Ext F' H'
  h : Ext H H'
  n : ∀ p o, H p = some o → F p = none → F' p = none
theorem Grow.refl {F H : Hp} (e : Ext F H) : Grow F H F H := ⟨Ext.rfl', e, Ext.rfl', fun _ _ _ h => h⟩
theorem Grow.trans {F H F1 H1 F2 H2 : Hp} (a : Grow F H F1 H1) (b : Grow F1 H1 F2 H2) : Grow F H F2 H2 :=
  ⟨a.f.trans b.f, b.fh, a.h.trans b.h, fun p o h n => b.n p o (a.h _ _ h) (a.n p o h n)⟩
theorem ext_none {F H : Hp} (e : Ext F H) {p : Addr} (h : H p = none) : F p = none := by
  cases q : F p with
  | none => rfl
  | some o => rw [e p o q] at h; cases h
theorem Grow.new {F H : Hp} (e : Ext F H) {p : Addr} {o : HO} (h : H p = none) : Grow F H (upd F p o) (upd H p o) where
  f := Ext.upd (ext_none e h)
  fh := fun a u q => by
    by_cases z : a = p
    · subst z; rw [upd_same] at q ⊢; exact q
    · rw [upd_ne z] at q ⊢; exact e _ _ q
  h := Ext.upd h
  n := fun a u q n => by
    have z : a ≠ p := fun z => by subst z; rw [h] at q; cases q
    rw [upd_ne z]; exact n
theorem Grow.raw {F H : Hp} (e : Ext F H) {p : Addr} {o : HO} (h : H p = none) : Grow F H F (upd H p o) :=
  ⟨Ext.rfl', e.trans (Ext.upd h), Ext.upd h, fun _ _ _ n => n⟩

section
variable {c : Ctx} {F H F' H' : Hp} {σ : VS.St} {ρ : Rho}
theorem SlOk.grow (g : Grow F H F' H') : ∀ {ov : Option V} {s : Sl}, SlOk c F H ov s → SlOk c F' H' ov s
  | _, .no, _ => by simp [SlOk]
  | some _, .val _, h => Rep.ext g.f h
  | some _, .own _, ⟨p, e, h0, hf, vs, hh, r⟩ => ⟨p, e, h0, g.n _ _ hh hf, vs, g.h _ _ hh, r.ext g.f⟩
  | some _, .bor _, ⟨p, e, h0, hf, vs, hh, r⟩ => ⟨p, e, h0, g.n _ _ hh hf, vs, g.h _ _ hh, r.ext g.f⟩
  | some _, .slf _ _, ⟨p, e, h0, hf, dx, fs, hh, n, r⟩ => ⟨p, e, h0, g.n _ _ hh hf, dx, fs, g.h _ _ hh, n, r.ext g.f⟩
  | none, .val _, h => h
  | none, .own _, h => h
  | none, .bor _, h => h
  | some _, .dic _ _ _, ⟨p, e, h0, hf, vs, hh, r⟩ => ⟨p, e, h0, let ⟨_, q⟩ := hh.ob; g.n _ _ q hf, vs, hh.ext g.f (g.h p), r.ext g.f⟩
  | some _, .lam _, ⟨f1, e, l⟩ => ⟨f1, e, l.move g.f fun q0 u0 e1 _ => ⟨g.h _ _ e1, fun e3 => g.n _ _ e1 e3⟩⟩
  | none, .slf _ _, h => h
  | none, .dic _ _ _, h => h
  | none, .lam _, h => h
theorem Ok.grow (I : Ok c F H σ ρ) (g : Grow F H F' H') : Ok c F' H' σ ρ where
  len := I.len
  f0 := I.f0.trans g.f
  fh := g.fh
  fr := fun p o h1 h2 h3 => g.h _ _ (I.fr p o h1 h2 h3)
  al := fun p o h1 => let ⟨o', e⟩ := I.al p o h1; ⟨o', g.h _ _ e⟩
  n0 := fun p o h1 h2 => let ⟨o', e⟩ := I.al p o h1; g.n p o' e (I.n0 p o h1 h2)
  sl := fun i s e => let ⟨ov, h1, h2⟩ := I.sl i s e; ⟨ov, h1, h2.grow g⟩
  ap := I.ap
  hb := I.hb
  tb := I.tb.ext g.h g.n
end

abbrev SE := Rho → Option (D × Rho)
abbrev SB := Rho → Option (Bool × Rho)
def vt (c : Ctx) (s : SE) : TE := fun σ H Q => ∃ F ρ, Ok c F H σ ρ ∧ ∃ d ρ', s ρ = some (d, ρ') ∧ ∀ v H' F', Ext F F' → Ok c F' H' σ ρ' → Rep c.G F' v d → Q v H'
def vb (c : Ctx) (s : SB) : TT := fun σ H Q => ∃ F ρ, Ok c F H σ ρ ∧ ∃ b ρ', s ρ = some (b, ρ') ∧ ∀ H' F', Ext F F' → Ok c F' H' σ ρ' → Q b H'
theorem pe_of {X : Cx} {e : Expr} {t t' : TE} (h : PE X e t) (w : ∀ σ H Q, t' σ H Q → t σ H Q) : PE X e t' :=
  ⟨fun pins s σ H Q I q => h.run pins s σ H Q I (w σ H Q q)⟩
theorem pt_of {X : Cx} {e : Expr} {t t' : TT} (h : PT X e t) (w : ∀ σ H Q, t' σ H Q → t σ H Q) : PT X e t' :=
  ⟨fun pins s σ H Q I q => h.run pins s σ H Q I (w σ H Q q)⟩
theorem ps_of {X : Cx} {e : Stmt} {t t' : TS} (h : PS X e t) (w : ∀ σ H Q, t' Q σ H → t Q σ H) : PS X e t' :=
  ⟨fun pins s σ H Q I q => h.run pins s σ H Q I (w σ H Q q)⟩
theorem pss_of {X : Cx} {e : List Stmt} {t t' : TS} (h : PSs X e t) (w : ∀ σ H Q, t' Q σ H → t Q σ H) : PSs X e t' :=
  ⟨fun pins s σ H Q I q => h.run pins s σ H Q I (w σ H Q q)⟩
theorem pa_of {X : Cx} {e : List Expr} {t t' : TA} (h : PA X e t) (w : ∀ σ H Q, t' σ H Q → t σ H Q) : PA X e t' :=
  ⟨fun pos pins s σ H Q I q => h.run pos pins s σ H Q I (w σ H Q q)⟩

def sV (i : Nat) : SE := fun ρ => match ρ[i]? with
  | some (.val d) => some (d, ρ)
  | some (.own xs) => some (.lst xs, ρ.set i (.val (.lst xs)))
  | some (.dic b ks ds) => some (.dct b ks ds, ρ.set i (.val (.dct b ks ds)))
  | _ => none
def sK (d : D) : SE := fun ρ => some (d, ρ)
section
variable {c : Ctx} {X : Cx}
theorem Ok.freezeX {F H : Hp} {σ : VS.St} {ρ : Rho} (I : Ok c F H σ ρ) {i : Nat} {s0 : Sl} {p : Addr} {o o' : HO} {d : D} (h : ρ[i]? = some s0) (hm0 : s0.mut = true) (h1 : σ[i]? = some (some (V.ref p))) (h0 : c.H0 p = none) (hh : H p = some o) (nt : ∀ ps, o ≠ .tbl ps) (nc : ∀ c q, o ≠ LamX.CodeO c q) (nl : ¬ LamL o) (hf : F p = none) (nt' : ∀ ps, o' ≠ .tbl ps) (nc' : ∀ c q, o' ≠ LamX.CodeO c q) (nl' : ¬ LamL o') (rd : Rep c.G (upd F p o') (V.ref p) d) :
  Ok c (upd F p o') (upd H p o') σ (ρ.set i (.val d)) := by
  have ex : Ext F (upd F p o') := Ext.upd hf
  have up : ∀ q u, q ≠ p → H q = some u → upd H p o' q = some u := fun q u n e => by rw [upd_ne n]; exact e
  refine ⟨by rw [List.length_set]; exact I.len, I.f0.trans ex, ?_, ?_, ?_, ?_, ?_, ?_, I.hb, (TbOk.mk (tabs_upd I.tb.t hh nt nc) I.tb.n).seal upd_same nt'⟩
  · intro a o' q
    by_cases z : a = p
    · subst z; rw [upd_same] at q; cases q; exact upd_same
    · rw [upd_ne z] at q; exact up _ _ z (I.fh _ _ q)
  · intro q u hq hB n
    exact up q u (fun z => by rw [z, h0] at hq; cases hq) (I.fr q u hq hB n)
  · intro q u hq
    obtain ⟨u', e⟩ := I.al q u hq
    exact ⟨u', up q u' (fun z => by rw [z, h0] at hq; cases hq) e⟩
  · intro q o hq hn
    have z : q ≠ p := fun z => by subst z; rw [h0] at hq; cases hq
    rw [upd_ne z]; exact I.n0 q o hq hn
  · intro j s hs
    by_cases hj : i = j
    · subst hj
      have hl : i < ρ.length := (List.getElem?_eq_some_iff.mp h).1
      rw [List.getElem?_set_self hl] at hs
      cases hs
      exact ⟨_, h1, rd⟩
    · rw [List.getElem?_set_ne hj] at hs
      obtain ⟨ov, g1, g2⟩ := I.sl j s hs
      refine ⟨ov, g1, ?_⟩
      have ne : ∀ q, s.mut = true → ov = some (V.ref q) → q ≠ p := fun q hm e z => hj (I.ap i j _ _ _ _ h hs hm0 hm h1 (by rw [g1, e]) z.symm)
      cases s with
      | no => cases ov <;> trivial
      | val d =>
        cases ov with
        | none => exact g2
        | some v => exact Rep.ext ex g2
      | lam g0 =>
        cases ov with
        | none => exact g2
        | some v => exact (let ⟨f1, z1, z2⟩ := g2; ⟨f1, z1, z2.move ex fun q0 u0 e1 e2 => have nz : q0 ≠ p := fun z => by { subst z; rw [hh] at e1; cases e1; exact nl e2 }; ⟨up q0 u0 nz e1, fun e3 => by rw [upd_ne nz]; exact e3⟩⟩)
      | own ys =>
        cases ov with
        | none => exact g2
        | some v =>
          obtain ⟨q, e, a1, a2, ws, a3, a4⟩ := g2
          exact ⟨q, e, a1, by rw [upd_ne (ne q rfl (by rw [e]))]; exact a2, ws, up q _ (ne q rfl (by rw [e])) a3, a4.ext ex⟩
      | bor ys =>
        cases ov with
        | none => exact g2
        | some v =>
          obtain ⟨q, e, a1, a2, ws, a3, a4⟩ := g2
          exact ⟨q, e, a1, by rw [upd_ne (ne q rfl (by rw [e]))]; exact a2, ws, up q _ (ne q rfl (by rw [e])) a3, a4.ext ex⟩
      | slf k ys =>
        cases ov with
        | none => exact g2
        | some v =>
          obtain ⟨q, e, a1, a2, dx, fs, a3, a4, a5⟩ := g2
          exact ⟨q, e, a1, by rw [upd_ne (ne q rfl (by rw [e]))]; exact a2, dx, fs, up q _ (ne q rfl (by rw [e])) a3, a4, a5.ext ex⟩
      | dic bb ks ys =>
        cases ov with
        | none => exact g2
        | some v =>
          obtain ⟨q, e, a1, a2, ws, a3, a4⟩ := g2
          exact ⟨q, e, a1, by rw [upd_ne (ne q rfl (by rw [e]))]; exact a2, ws, a3.ext ex fun u z => up q u (ne q rfl (by rw [e])) z, a4.ext ex⟩
  · intro a b s t p' q' ha hb ms mt
    by_cases ha' : i = a
    · subst ha'
      have hl : i < ρ.length := (List.getElem?_eq_some_iff.mp h).1
      rw [List.getElem?_set_self hl] at ha
      cases ha
      cases ms
    · by_cases hb' : i = b
      · subst hb'
        have hl : i < ρ.length := (List.getElem?_eq_some_iff.mp h).1
        rw [List.getElem?_set_self hl] at hb
        cases hb
        cases mt
      · rw [List.getElem?_set_ne ha'] at ha
        rw [List.getElem?_set_ne hb'] at hb
        exact I.ap a b s t p' q' ha hb ms mt
theorem upd_id {H : Hp} {p : Addr} {o : HO} (h : H p = some o) : upd H p o = H := by
  funext b
  by_cases z : b = p
  · subst z; rw [upd_same, h]
  · rw [upd_ne z]
theorem Ok.freezeAt {F H : Hp} {σ : VS.St} {ρ : Rho} (I : Ok c F H σ ρ) {i : Nat} {s0 : Sl} {p : Addr} {o : HO} {d : D} (h : ρ[i]? = some s0) (hm0 : s0.mut = true) (h1 : σ[i]? = some (some (V.ref p))) (h0 : c.H0 p = none) (hh : H p = some o) (nt : ∀ ps, o ≠ .tbl ps) (nc : ∀ c q, o ≠ LamX.CodeO c q) (nl : ¬ LamL o) (hf : F p = none) (rd : Rep c.G (upd F p o) (V.ref p) d) :
    Ok c (upd F p o) H σ (ρ.set i (.val d)) := by
  have k := I.freezeX h hm0 h1 h0 hh nt nc nl hf nt nc nl rd
  rw [upd_id hh] at k
  exact k
theorem Ok.freeze {F H : Hp} {σ : VS.St} {ρ : Rho} (I : Ok c F H σ ρ) {i : Nat} {xs : List D} (h : ρ[i]? = some (.own xs)) :
    ∃ p vs, σ[i]? = some (some (V.ref p)) ∧ H p = some (.lst vs) ∧ F p = none ∧ Reps c.G F vs xs ∧ Ok c (upd F p (.lst vs)) H σ (ρ.set i (.val (.lst xs))) := by
  obtain ⟨ov, h1, h2⟩ := I.sl i _ h
  cases ov with
  | none => exact h2.elim
  | some v =>
    obtain ⟨p, e, h0, hf, vs, hh, r⟩ := h2
    subst e
    exact ⟨p, vs, h1, hh, hf, r, I.freezeAt h rfl h1 h0 hh (fun _ z => by cases z) nc_lst nl_lst hf (Rep.lst upd_same (r.ext (Ext.upd hf)))⟩
def dicU (w : World) (p : Addr) (u : HO) : Prop := (∃ kvs, u = .dK kvs) ∨ ∃ xs, u = rawO w p xs
theorem dicU.mut {w : World} {p : Addr} {u : HO} (d : dicU w p u) : Mut (some u) := by
  rcases d with ⟨kvs, d⟩ | ⟨xs, d⟩ <;> (subst d; exact True.intro)
theorem DicAt.u {w : World} {b : Bool} {F H : Hp} {p : Addr} {ks : List NestedKey} {vs : List V} (d : DicAt w b none F H p ks vs) : ∃ u, H p = some u ∧ dicU w p u ∧
    ∀ od F' H', Ext F F' → H' p = some (.frz od u) → DicAt w b (some od) F' H' p ks vs := by
  cases b with
  | true => obtain ⟨xs, d⟩ := d; exact ⟨_, d.at_, .inr ⟨xs, rfl⟩, fun od F' H' x e => ⟨xs, e, d.sys, d.kse, d.nd, d.vse, fun y hy => ⟨(d.ky y hy).1.ext x, (d.ky y hy).2⟩, d.ln⟩⟩
  | false => obtain ⟨kvs, d, r⟩ := d; exact ⟨_, d, .inl ⟨kvs, rfl⟩, fun od F' H' x e => ⟨kvs, e, r⟩⟩
theorem dicU.nt {w : World} {p : Addr} {u : HO} (d : dicU w p u) : ∀ ps, u ≠ .tbl ps := by
  rcases d with ⟨kvs, d⟩ | ⟨xs, d⟩
  · subst d; exact dK_nt
  · subst d; exact raw_nt
theorem dicU.nc {w : World} {p : Addr} {u : HO} (d : dicU w p u) : ∀ c q, u ≠ LamX.CodeO c q := by
  rcases d with ⟨kvs, d⟩ | ⟨xs, d⟩
  · subst d; exact fun c q z => by unfold LamX.CodeO at z; cases z
  · subst d; exact nc_raw
theorem dicU.nl {w : World} {p : Addr} {u : HO} (d : dicU w p u) (l : Option Obj) : ¬ LamL (lkO l u) := by
  rcases d with ⟨kvs, d⟩ | ⟨xs, d⟩
  · subst d; exact nl_lk nl_dK dK_no
  · subst d; exact nl_lk nl_raw raw_no
theorem Ok.freezeD {F H : Hp} {σ : VS.St} {ρ : Rho} (I : Ok c F H σ ρ) {i : Nat} {b : Bool} {ks : List NestedKey} {ds : List D} (h : ρ[i]? = some (.dic b ks ds)) :
    ∃ p u, σ[i]? = some (some (V.ref p)) ∧ H p = some u ∧ Mut (some u) ∧ ∀ od, ∃ F', Ext F F' ∧ Rep c.G F' (V.ref p) (.dct b ks ds) ∧ Ok c F' (upd H p (.frz od u)) σ (ρ.set i (.val (.dct b ks ds))) := by
  obtain ⟨ov, h1, h2⟩ := I.sl i _ h
  cases ov with
  | none => exact h2.elim
  | some v =>
    obtain ⟨p, e, h0, hf, vs, hd, r⟩ := h2
    subst e
    obtain ⟨u, hh, du, mk⟩ := hd.u
    refine ⟨p, u, h1, hh, du.mut, fun od => ?_⟩
    have ex : Ext F (upd F p (.frz od u)) := Ext.upd hf
    have rd : Rep c.G (upd F p (.frz od u)) (V.ref p) (.dct b ks ds) := .dct (b := b) (od := od) (mk od _ _ ex upd_same) (r.ext ex)
    exact ⟨_, ex, rd, I.freezeX h rfl h1 h0 hh du.nt du.nc (du.nl none) hf (fun _ z => by cases z) (fun _ _ z => by unfold LamX.CodeO at z; cases z) (du.nl (some od)) rd⟩
def tVarL (i : Nat) : TE := fun σ H Q => ∃ v, σ[i]? = some (some v) ∧ (Q v H ∨ ∃ p u, v = V.ref p ∧ H p = some u ∧ Mut (some u) ∧ ∀ od, Q v (upd H p (.frz od u)))
theorem pe_varL {e : Expr} {i : Nat} (h : PE X e (tVar i)) : PE X e (tVarL i) := by
  refine ⟨fun pins s σ H Q I k => ?_⟩
  obtain ⟨v, h1, h2⟩ := k
  refine thn (h.run pins s σ H (fun w H1 => w = v ∧ H1 = H) I ⟨v, h1, rfl, rfl⟩) fun u s1 ⟨w, H1, I1, r1, ew, eH⟩ => ?_
  subst ew eH
  rcases h2 with q | ⟨p, u0, ev, hp, mu, q⟩
  · exact ⟨_, _, I1, r1, q⟩
  · obtain ⟨od, I2⟩ := I1.lock hp mu
    exact ⟨_, _, I2, r1, q od⟩
theorem ve_var {e : Expr} {i : Nat} (h : PE X e (tVar i)) : PE X e (vt c (sV i)) := by
  refine pe_of (pe_varL h) fun σ H Q ⟨F, ρ, I, d, ρ', e, q⟩ => ?_
  unfold sV at e
  split at e
  · rename_i d' hd
    cases e
    obtain ⟨ov, h1, h2⟩ := I.sl i _ hd
    cases ov with
    | none => exact h2.elim
    | some v => exact ⟨v, h1, .inl (q v H F Ext.rfl' I h2)⟩
  · rename_i xs hd
    cases e
    obtain ⟨p, vs, h1, h2, h3, h4, h5⟩ := I.freeze hd
    exact ⟨_, h1, .inl (q _ H _ (Ext.upd h3) h5 (Rep.lst upd_same (h4.ext (Ext.upd h3))))⟩
  · rename_i bb ks ds hd
    cases e
    obtain ⟨p, u, h1, hh, mu, mk⟩ := I.freezeD hd
    refine ⟨_, h1, .inr ⟨p, u, rfl, hh, mu, fun od => ?_⟩⟩
    obtain ⟨F', h2, h3, h4⟩ := mk od
    exact q _ _ _ h2 h4 h3
  · cases e
theorem ve_k {e : Expr} {v : V} {d : D} (h : PE X e (tC v)) (r : ∀ F, Rep c.G F v d) : PE X e (vt c (sK d)) := by
  refine pe_of h fun σ H Q ⟨F, ρ, I, d', ρ', e, q⟩ => ?_
  cases e
  exact q v H F Ext.rfl' I (r F)
theorem ve_int {i : Int} {j pos} : PE X (.Constant (.int i) j pos) (vt c (sK (.int i))) := ve_k pe_int fun _ => .int i
theorem ve_bl {b : Bool} {j pos} : PE X (.Constant (.bool b) j pos) (vt c (sK (.bl b))) := ve_k pe_bl fun _ => .bl b
theorem ve_non {j pos} : PE X (.Constant .none j pos) (vt c (sK .non)) := ve_k pe_non fun _ => .non
theorem ve_str {x : Str} {j pos} : PE X (.Constant (.str x) j pos) (vt c (sK (.str x))) := ve_k pe_str fun _ => .str x
end
end VS

set_option Elab.async false
set_option linter.all false
set_option maxRecDepth 100000
set_option maxHeartbeats 4000000
namespace VS
open PySem PySem.Spec PyProof.Rows L2

abbrev LN : Nat := 1000000
theorem ln_fit {n : Nat} (h : n ≤ LN) : n ≤ sizeLine := Nat.le_trans h (by rw [sizeLine_eq]; decide)
abbrev G1 := D → Option D
abbrev G2 := D → D → Option D
abbrev GL := List D → Option D

def Aft (G : Gx) (F H : Hp) (d : D) (Q : VK) : Prop := ∀ v H' F', Grow F H F' H' → Rep G F' v d → Q v H'
theorem Aft.here {G : Gx} {F H : Hp} {d : D} {Q : VK} {v : V} (q : Aft G F H d Q) (e : Ext F H) (r : Rep G F v d) : Q v H := q v H F (.refl e) r
theorem Aft.newL {G : Gx} {F H : Hp} {vs : List V} {ds : List D} {Q : VK} (q : Aft G F H (.lst ds) Q) (e : Ext F H) (r : Reps G F vs ds) : ∀ p, H p = none → Q (.ref p) (upd H p (.lst vs)) :=
  fun p h => q _ _ _ (.new e h) (.lst upd_same (r.ext (Ext.upd (ext_none e h))))
theorem Aft.newT {G : Gx} {F H : Hp} {vs : List V} {ds : List D} {Q : VK} (q : Aft G F H (.tup ds) Q) (e : Ext F H) (r : Reps G F vs ds) : ∀ p, H p = none → Q (.ref p) (upd H p (.tup vs)) :=
  fun p h => q _ _ _ (.new e h) (.tup upd_same (r.ext (Ext.upd (ext_none e h))))

def rD (G : Gx) (g : G2) : R2 := fun x y H Q => ∃ F a b d, Ext F H ∧ Rep G F x a ∧ Rep G F y b ∧ g a b = some d ∧ Aft G F H d Q
def rL (G : Gx) (g : GL) : List V → Hp → VK → Prop := fun xs H Q => ∃ F ds d, Ext F H ∧ Reps G F xs ds ∧ g ds = some d ∧ Aft G F H d Q
abbrev OpD (c : Ctx) (X : Cx) (f : Value → Value → Sem Value) (g : G2) := OpR X f (rD c.G g)
abbrev CaD (c : Ctx) (X : Cx) (f : Value) (g : GL) := CallR X f (rL c.G g)
theorem opr_of {X : Cx} {f : Value → Value → Sem Value} {r r' : R2} (h : OpR X f r) (w : ∀ x y H Q, r' x y H Q → r x y H Q) : OpR X f r' :=
  fun pins s σ H x y v u Q I rx ry q => h pins s σ H x y v u Q I rx ry (w x y H Q q)
theorem car_of {X : Cx} {f : Value} {r r' : List V → Hp → VK → Prop} (h : CallR X f r) (w : ∀ x H Q, r' x H Q → r x H Q) : CallR X f r' :=
  fun pins s σ H x us Q I rx q => h pins s σ H x us Q I rx (w x H Q q)

def s2 (g : G2) (a b : SE) : SE := fun ρ => match a ρ with
  | some (x, ρ1) => match b ρ1 with
    | some (y, ρ2) => match g x y with
      | some d => some (d, ρ2)
      | none => none
    | none => none
  | none => none
def s1 (g : G1) (a : SE) : SE := fun ρ => match a ρ with
  | some (x, ρ1) => match g x with
    | some d => some (d, ρ1)
    | none => none
  | none => none
theorem s2_inv {g : G2} {a b : SE} {ρ : Rho} {d : D} {ρ' : Rho} (h : s2 g a b ρ = some (d, ρ')) : ∃ x ρ1 y, a ρ = some (x, ρ1) ∧ b ρ1 = some (y, ρ') ∧ g x y = some d := by
  unfold s2 at h
  split at h
  · split at h
    · split at h
      · cases h; exact ⟨_, _, _, by assumption, by assumption, by assumption⟩
      · cases h
    · cases h
  · cases h
theorem s1_inv {g : G1} {a : SE} {ρ : Rho} {d : D} {ρ' : Rho} (h : s1 g a ρ = some (d, ρ')) : ∃ x, a ρ = some (x, ρ') ∧ g x = some d := by
  unfold s1 at h
  split at h
  · split at h
    · cases h; exact ⟨_, by assumption, by assumption⟩
    · cases h
  · cases h
section
variable {c : Ctx} {X : Cx} {a b : Expr} {sa sb : SE} {pos : Pos}
theorem vt2 {g : G2} {σ : L2.St} {H : Hp} {Q : VK} (h : vt c (s2 g sa sb) σ H Q) : tOp (rD c.G g) (vt c sa) (vt c sb) σ H Q := by
  obtain ⟨F, ρ, I, d, ρ', e, q⟩ := h
  obtain ⟨x, ρ1, y, e1, e2, e3⟩ := s2_inv e
  refine ⟨F, ρ, I, x, ρ1, e1, fun v H1 F1 x1 I1 r1 => ⟨F1, ρ1, I1, y, ρ', e2, fun w H2 F2 x2 I2 r2 => ?_⟩⟩
  exact ⟨F2, x, y, d, I2.fh, r1.ext x2, r2, e3, fun v H' F' g r => q v H' F' ((x1.trans x2).trans g.f) (I2.grow g) r⟩
theorem ve_op {op : Operator} {g : G2} (ho : OpD c X (binaryOp op) g) (ha : PE X a (vt c sa)) (hb : PE X b (vt c sb)) : PE X (.BinOp a op b pos) (vt c (s2 g sa sb)) :=
  pe_of (pe_op ho ha hb) fun _ _ _ h => vt2 h
theorem ve_cmp {op : CmpOp} {g : G2} (ho : OpD c X (compareOp op) g) (ha : PE X a (vt c sa)) (hb : PE X b (vt c sb)) (hm : behindInMarks op b = false := by first | exact nomark _ | rfl) : PE X (.Compare a [op] [b] pos) (vt c (s2 g sa sb)) :=
  pe_of (pe_cmpR ho ha hb hm) fun _ _ _ h => vt2 h
def sB (s : SE) : SB := fun ρ => match s ρ with
  | some (.bl b, ρ') => some (b, ρ')
  | _ => none
theorem sB_inv {s : SE} {ρ : Rho} {b : Bool} {ρ' : Rho} (h : sB s ρ = some (b, ρ')) : s ρ = some (.bl b, ρ') := by
  unfold sB at h
  split at h
  · cases h; assumption
  · cases h
theorem vb_test {t : TE} {s : SE} {σ : L2.St} {H : Hp} {Q : Bool → Hp → Prop} (w : ∀ Q, vt c s σ H Q → t σ H Q) (h : vb c (sB s) σ H Q) : t σ H fun x H' => ∃ k, x = .bl k ∧ Q k H' := by
  obtain ⟨F, ρ, I, b, ρ', e, q⟩ := h
  refine w _ ⟨F, ρ, I, .bl b, ρ', sB_inv e, fun v H' F' x I' r => ?_⟩
  cases r
  exact ⟨b, rfl, q H' F' x I'⟩
theorem vt_cmp {op : CmpOp} {g : G2} (ho : OpD c X (compareOp op) g) (ha : PE X a (vt c sa)) (hb : PE X b (vt c sb)) (hm : behindInMarks op b = false := by first | exact nomark _ | rfl) : PT X (.Compare a [op] [b] pos) (vb c (sB (s2 g sa sb))) :=
  pt_of (pt_cmpR ho ha hb hm) fun _ _ _ h => vb_test (fun _ => vt2) h
theorem vt_val {e : Expr} {s : SE} (h : PE X e (vt c s)) (he : ∀ whole, isTrue e X.env whole = (do let v ← whole; standAt e.pos; holding [v] (truthy v)) := by intro _; rfl) : PT X e (vb c (sB s)) :=
  pt_of (pt_val h he) fun _ _ _ h => vb_test (fun _ z => z) h
end

abbrev Bd (i : Int) : Prop := i.natAbs < 2 ^ 4000
theorem Bd.log {i : Int} (h : Bd i) : i.natAbs.log2 < 4000 := PySem.Flt.log2_lt_of (by decide) h
def gSub : G2
  | .int a, .int b => some (.int (a - b))
  | _, _ => none
def gMul : G2
  | .int a, .int b => if Bd a ∧ Bd b then some (.int (a * b)) else none
  | _, _ => none
def gFdiv : G2
  | .int a, .int b => if 0 < b ∧ Bd b then some (.int (a / b)) else none
  | _, _ => none
def gMod : G2
  | .int a, .int b => if 0 < b then some (.int (a % b)) else none
  | _, _ => none
def gPow : G2
  | .int a, .int b => if 0 ≤ b ∧ (Builtin.Int.intBits a : Int) * b ≤ 2 ^ 27 then some (.int (a ^ b.toNat)) else none
  | _, _ => none
def gCmp (p : Int → Int → Bool) : G2
  | .int a, .int b => some (.bl (p a b))
  | _, _ => none
def gLt : G2 := gCmp fun a b => decide (a < b)
def gLe : G2 := gCmp fun a b => decide (a ≤ b)
def gGt : G2 := gCmp fun a b => decide (b < a)
def gAdd : G2
  | .int a, .int b => some (.int (a + b))
  | .str a, .str b => if a.length + b.length ≤ LN then some (.str (a ++ b)) else none
  | .lst a, .lst b => if a.length + b.length ≤ LN then some (.lst (a ++ b)) else none
  | .tup a, .tup b => if a.length + b.length ≤ LN then some (.tup (a ++ b)) else none
  | _, _ => none
section
variable {c : Ctx} {X : Cx}
theorem od_sub : OpD c X (binaryOp .Sub) gSub := opr_of op_sub fun x y H Q ⟨F, a, b, d, e, ra, rb, hg, q⟩ => by
  unfold gSub at hg
  split at hg
  · cases hg; cases ra; cases rb; exact ⟨_, _, rfl, rfl, q.here e (.int _)⟩
  · cases hg
theorem od_mul : OpD c X (binaryOp .Mult) gMul := opr_of op_mulW fun x y H Q ⟨F, a, b, d, e, ra, rb, hg, q⟩ => by
  unfold gMul at hg
  split at hg
  · split at hg
    · rename_i h
      cases hg; cases ra; cases rb
      exact ⟨_, _, rfl, rfl, (by have h1 := h.1.log; have h2 := h.2.log; unfold CMulW; omega), q.here e (.int _)⟩
    · cases hg
  · cases hg
theorem od_fdiv : OpD c X (binaryOp .FloorDiv) gFdiv := opr_of op_fdivW fun x y H Q ⟨F, a, b, d, e, ra, rb, hg, q⟩ => by
  unfold gFdiv at hg
  split at hg
  · split at hg
    · rename_i h
      cases hg; cases ra; cases rb
      exact ⟨_, _, rfl, rfl, ⟨h.1, by have := h.2.log; omega⟩, q.here e (.int _)⟩
    · cases hg
  · cases hg
theorem od_mod : OpD c X (binaryOp .Mod) gMod := opr_of op_mod fun x y H Q ⟨F, a, b, d, e, ra, rb, hg, q⟩ => by
  unfold gMod at hg
  split at hg
  · split at hg
    · rename_i h
      cases hg; cases ra; cases rb
      exact ⟨_, _, rfl, rfl, h, q.here e (.int _)⟩
    · cases hg
  · cases hg
theorem od_pow : OpD c X (binaryOp .Pow) gPow := by
  intro pins s σ H x y v u Q I rx ry ⟨F, a, b, d, e, ra, rb, hg, q⟩
  unfold gPow at hg
  split at hg
  · split at hg
    · rename_i h
      cases hg; cases ra; cases rb
      obtain ⟨t, rfl⟩ := rx
      obtain ⟨t', rfl⟩ := ry
      exact pow_int h.1 h.2 ⟨.int _, H, I.tok _, ⟨_, rfl⟩, q.here e (.int _)⟩
    · cases hg
  · cases hg
theorem od_cmp {op : CmpOp} {p : Int → Int → Bool} (h : OpR X (compareOp op) (rI0 fun i j => .bl (p i j))) : OpD c X (compareOp op) (gCmp p) := opr_of h fun x y H Q ⟨F, a, b, d, e, ra, rb, hg, q⟩ => by
  unfold gCmp at hg
  split at hg
  · cases hg; cases ra; cases rb; exact ⟨_, _, rfl, rfl, q.here e (.bl _)⟩
  · cases hg
theorem od_lt : OpD c X (compareOp .Lt) gLt := od_cmp op_lt
theorem od_le : OpD c X (compareOp .LtE) gLe := od_cmp op_le
theorem od_gt : OpD c X (compareOp .Gt) gGt := od_cmp op_gt
theorem od_add : OpD c X (binaryOp .Add) gAdd :=
  opr_of ((op_add.or op_add_str).or (op_cat.or op_catA)) fun x y H Q ⟨F, a, b, d, e, ra, rb, hg, q⟩ => by
  unfold gAdd at hg
  split at hg
  · cases hg; cases ra; cases rb; exact .inl (.inl ⟨_, _, rfl, rfl, q.here e (.int _)⟩)
  · split at hg
    · rename_i h
      cases hg; cases ra; cases rb; exact .inl (.inr ⟨_, _, rfl, rfl, ln_fit h, q.here e (.str _)⟩)
    · cases hg
  · split at hg
    · rename_i h
      cases hg
      cases ra with
      | lst h1 r1 =>
        cases rb with
        | lst h2 r2 =>
          refine .inr (.inl ⟨_, _, _, _, rfl, rfl, e _ _ h1, e _ _ h2, by rw [r1.length, r2.length]; exact ln_fit h, fun p hp => q.newL e (r1.append r2) p hp⟩)
    · cases hg
  · split at hg
    · rename_i h
      cases hg
      cases ra with
      | tup h1 r1 =>
        cases rb with
        | tup h2 r2 =>
          refine .inr (.inr ⟨_, _, _, _, rfl, rfl, .of (e _ _ h1), .of (e _ _ h2), by rw [r1.length, r2.length]; exact ln_fit h, fun z => ?_, fun _ z => ?_, fun _ _ p hp => q.newT e (r1.append r2) p hp⟩)
          · subst z; cases r1; exact q.here e (.tup h2 r2)
          · subst z; cases r2; rw [List.append_nil] at q; exact q.here e (.tup h1 r1)
    · cases hg
  · cases hg
end
end VS

set_option Elab.async false
set_option linter.all false
set_option maxRecDepth 100000
set_option maxHeartbeats 4000000
namespace VS
open PySem PySem.Spec PyProof.Rows L2

mutual
def toP : D → Option PyData
  | .non => some .none
  | .bl b => some (.bool b)
  | .int i => some (.int i)
  | .str x => some (.str x)
  | .lst xs => match toPs xs with
    | some ys => some (.list ys)
    | none => none
  | .tup xs => match toPs xs with
    | some ys => some (.tuple ys)
    | none => none
  | _ => none
def toPs : List D → Option (List PyData)
  | [] => some []
  | d :: ds => match toP d, toPs ds with
    | some x, some xs => some (x :: xs)
    | _, _ => none
end
mutual
theorem Rep.dp {G : Gx} {F : Hp} {K : PySem.W.Frag} {H : Hp} (e : Ext F H) : ∀ {v : V} {d : D} {x : PyData}, Rep G F v d → toP d = some x → Dp K H v x
  | _, _, _, .non, h => by cases h; exact .non
  | _, _, _, .bl b, h => by cases h; exact .bl b
  | _, _, _, .int b, h => by cases h; exact .int b
  | _, _, _, .str b, h => by cases h; exact .str b
  | _, _, _, .adr a, h => by cases h
  | _, _, _, .scr _ _, h => by cases h
  | _, _, _, .ins _ _ _, h => by cases h
  | _, _, _, .dct _ _, h => by unfold toP at h; cases h
  | _, _, _, .exc _ _ _, h => by unfold toP at h; cases h
  | _, _, _, .bth _, h => by unfold toP at h; cases h
  | _, _, _, .lst h1 r, h => by
    unfold toP at h
    split at h
    · rename_i ys hy; cases h; exact .lst (.of (e _ _ h1)) (Reps.dp e r hy)
    · cases h
  | _, _, _, .tup h1 r, h => by
    unfold toP at h
    split at h
    · rename_i ys hy; cases h; exact .tup (.of (e _ _ h1)) (Reps.dp e r hy)
    · cases h
theorem Reps.dp {G : Gx} {F : Hp} {K : PySem.W.Frag} {H : Hp} (e : Ext F H) : ∀ {vs : List V} {ds : List D} {xs : List PyData}, Reps G F vs ds → toPs ds = some xs → DpAll K H vs xs
  | _, _, _, .nil, h => by unfold toPs at h; cases h; exact .nil
  | _, _, _, .cons h1 r, h => by
    unfold toPs at h
    split at h
    · rename_i y ys h2 h3; cases h; exact .cons (Rep.dp e h1 h2) (Reps.dp e r h3)
    · cases h
end
def scalE : D → D → Option Bool
  | .int a, .int b => some (decide (a = b))
  | .str a, .str b => some (decide (a = b))
  | .bl a, .bl b => some (decide (a = b))
  | .non, .non => some true
  | .non, .int _ => some false | .int _, .non => some false | .non, .bl _ => some false | .bl _, .non => some false
  | .non, .str _ => some false | .str _, .non => some false | .int _, .str _ => some false | .str _, .int _ => some false
  | _, _ => none
def eqD (a b : D) : Option Bool := match scalE a b with
  | some r => some r
  | none => match toP a, toP b with
    | some x, some y => if SeqAt.shaped x = true ∧ SeqAt.shaped y = true then some (PyData.eqv x y) else none
    | _, _ => none
def gEq : G2 := fun a b => (eqD a b).map .bl
def gNe : G2 := fun a b => (eqD a b).map fun r => .bl (!r)
theorem scal_of {G : Gx} {F : Hp} {x y : V} {a b : D} {r : Bool} (ra : Rep G F x a) (rb : Rep G F y b) (h : scalE a b = some r) : scal x y = true ∧ decide (x = y) = r := by
  unfold scalE at h
  split at h
  all_goals first
    | (cases h; cases ra; cases rb; exact ⟨rfl, by simp⟩)
    | cases h
section
variable {c : Ctx} {X : Cx}
theorem od_eq (hu : X.A.units + 64 < cLine) : OpD c X (compareOp .Eq) gEq := opr_of (op_eq.or (op_eqD hu)) fun x y H Q ⟨F, a, b, d, e, ra, rb, hg, q⟩ => by
  unfold gEq eqD at hg
  cases h : scalE a b with
  | some r =>
    rw [h] at hg; cases hg
    obtain ⟨h1, h2⟩ := scal_of ra rb h
    exact .inl ⟨h1, by rw [h2]; exact q.here e (.bl _)⟩
  | none =>
    rw [h] at hg
    dsimp only at hg
    split at hg
    · rename_i x' y' h1 h2
      split at hg
      · rename_i hs
        cases hg
        exact .inr ⟨x', y', ra.dp e h1, rb.dp e h2, hs.1, hs.2, q.here e (.bl _)⟩
      · cases hg
    · cases hg
theorem od_ne (hu : X.A.units + 64 < cLine) : OpD c X (compareOp .NotEq) gNe := opr_of (op_ne.or (op_neD hu)) fun x y H Q ⟨F, a, b, d, e, ra, rb, hg, q⟩ => by
  unfold gNe eqD at hg
  cases h : scalE a b with
  | some r =>
    rw [h] at hg; cases hg
    obtain ⟨h1, h2⟩ := scal_of ra rb h
    exact .inl ⟨h1, by rw [h2]; exact q.here e (.bl _)⟩
  | none =>
    rw [h] at hg
    dsimp only at hg
    split at hg
    · rename_i x' y' h1 h2
      split at hg
      · rename_i hs
        cases hg
        exact .inr ⟨x', y', ra.dp e h1, rb.dp e h2, hs.1, hs.2, q.here e (.bl _)⟩
      · cases hg
    · cases hg
end

def flatD : D → Bool
  | .non => true | .bl _ => true | .int _ => true | .str _ => true | _ => false
def eqF : D → D → Bool
  | .non, .non => true
  | .bl a, .bl b => a == b
  | .bl a, .int b => (if a then 1 else 0) == b
  | .int a, .bl b => a == (if b then 1 else 0)
  | .int a, .int b => a == b
  | .str a, .str b => a == b
  | _, _ => false
theorem flat_of {G : Gx} {F : Hp} {x : V} {a : D} (ra : Rep G F x a) (h : flatD a = true) : flatV x = true := by
  cases ra <;> first | rfl | cases h
theorem eqF_of {G : Gx} {F : Hp} {x y : V} {a b : D} (ra : Rep G F x a) (rb : Rep G F y b) (h : flatD a = true) (h' : flatD b = true) : eqV x y = eqF a b := by
  cases ra <;> first | (cases rb <;> first | rfl | cases h') | cases h
theorem flats_of {G : Gx} {F : Hp} : ∀ {xs : List V} {as : List D}, Reps G F xs as → as.all flatD = true → xs.all flatV = true
  | _, _, .nil, _ => rfl
  | _, _, .cons h r, e => by
    simp only [List.all_cons, Bool.and_eq_true] at e ⊢
    exact ⟨flat_of h e.1, flats_of r e.2⟩
theorem anyF_of {G : Gx} {F : Hp} {y : V} {b : D} (rb : Rep G F y b) (hb : flatD b = true) : ∀ {xs : List V} {as : List D}, Reps G F xs as → as.all flatD = true → (xs.any fun x => eqV x y) = as.any fun a => eqF a b
  | _, _, .nil, _ => rfl
  | _, _, .cons h r, e => by
    simp only [List.all_cons, Bool.and_eq_true] at e
    simp only [List.any_cons]
    rw [eqF_of h rb e.1 hb, anyF_of rb hb r e.2]
def inD (a : D) (xs : List D) : Option Bool := if flatD a = true ∧ xs.all flatD = true then some (xs.any fun x => eqF x a) else none
def inB : D → D → Option Bool
  | a, .lst xs => inD a xs
  | a, .tup xs => inD a xs
  | .str ⟨⟨[k]⟩⟩, .str z => some (decide (k ∈ z.cps.toList))
  | _, _ => none
def gNotIn : G2 := fun a b => (inB a b).map fun r => .bl (!r)
theorem in_of {G : Gx} {F H : Hp} {K : PySem.W.Frag} {x y : V} {a b : D} {r : Bool} (e : Ext F H) (ra : Rep G F x a) (rb : Rep G F y b) (h : inB a b = some r) :
    (∃ p xs, y = .ref p ∧ (SqL K H p xs ∨ SqT K H p xs) ∧ flatV x = true ∧ xs.all flatV = true ∧ inV x xs = r) ∨ (∃ (k : Nat) (z : Str), x = .str ⟨#[k]⟩ ∧ y = .str z ∧ decide (k ∈ z.cps.toList) = r) := by
  have core : ∀ {ds : List D} {vs : List V}, Reps G F vs ds → inD a ds = some r → flatV x = true ∧ vs.all flatV = true ∧ inV x vs = r := fun {ds vs} rs h => by
    unfold inD at h
    split at h
    · rename_i h1
      cases h
      exact ⟨flat_of ra h1.1, flats_of rs h1.2, anyF_of ra h1.1 rs h1.2⟩
    · cases h
  unfold inB at h
  split at h
  · cases rb with
    | lst h1 rs => exact .inl ⟨_, _, rfl, .inl (.of (e _ _ h1)), core rs h⟩
  · cases rb with
    | tup h1 rs => exact .inl ⟨_, _, rfl, .inr (.of (e _ _ h1)), core rs h⟩
  · cases h; cases ra; cases rb; exact .inr ⟨_, _, rfl, rfl, rfl⟩
  · cases h
section
variable {c : Ctx} {X : Cx}
theorem od_notin : OpD c X (compareOp .NotIn) gNotIn := opr_of (op_notIn_seq.or op_notIn_sign) fun x y H Q ⟨F, a, b, d, e, ra, rb, hg, q⟩ => by
  unfold gNotIn at hg
  cases h : inB a b with
  | none => rw [h] at hg; cases hg
  | some r =>
    rw [h] at hg; cases hg
    rcases in_of (K := X.K) e ra rb h with ⟨p, xs, h1, h2, h3, h4, h5⟩ | ⟨k, z, h1, h2, h3⟩
    · exact .inl ⟨p, xs, h1, h2, h3, h4, by subst h5; exact q.here e (.bl _)⟩
    · exact .inr ⟨k, z, h1, h2, by rw [h3]; exact q.here e (.bl _)⟩
def isN : D → Bool
  | .non => true
  | _ => false
def gIsN : G1 := fun a => some (.bl (isN a))
theorem isN_of {G : Gx} {F : Hp} {x : V} {a : D} (r : Rep G F x a) : decide (x = V.non) = isN a := by cases r <;> simp [isN]
theorem vt_isN {a : Expr} {sa : SE} {j pos pos'} (ha : PE X a (vt c sa)) : PT X (.Compare a [.Is] [.Constant .none j pos'] pos) (vb c (sB (s1 gIsN sa))) := by
  refine pt_of (pt_cmp (pc_isN ha) rfl) fun σ H Q h => ?_
  obtain ⟨F, ρ, I, b, ρ', e, q⟩ := h
  obtain ⟨x, e1, e2⟩ := s1_inv (sB_inv e)
  cases e2
  exact ⟨F, ρ, I, x, ρ', e1, fun v H1 F1 x1 I1 r1 => ⟨_, rfl, by rw [isN_of r1]; exact q _ _ x1 I1⟩⟩
def sCh (g g' : G2) (a b d : SE) : SE := fun ρ => match a ρ with
  | some (x, ρ1) => match b ρ1 with
    | some (y, ρ2) => match g x y with
      | some (.bl true) => match d ρ2 with
        | some (z, ρ3) => match g' y z with
          | some r => some (r, ρ3)
          | none => none
        | none => none
      | some (.bl false) => some (.bl false, ρ2)
      | _ => none
    | none => none
  | none => none
theorem chain_w {sa sb sd : SE} {g g' : G2} (σ : L2.St) (H : Hp) (Q : VK) (h : vt c (sCh g g' sa sb sd) σ H Q) : tChain (rD c.G g) (rD c.G g') (vt c sa) (vt c sb) (vt c sd) σ H Q := by
  obtain ⟨F, ρ, I, d, ρ', e, q⟩ := h
  unfold sCh at e
  split at e
  · rename_i x ρ1 e1
    split at e
    · rename_i y ρ2 e2
      refine ⟨F, ρ, I, x, ρ1, e1, fun v H1 F1 x1 I1 r1 => ⟨F1, ρ1, I1, y, ρ2, e2, fun w H2 F2 x2 I2 r2 => ?_⟩⟩
      split at e
      · rename_i e3
        split at e
        · rename_i z ρ3 e4
          split at e
          · rename_i r e5
            cases e
            refine ⟨F2, x, y, _, I2.fh, r1.ext x2, r2, e3, fun v3 H3 F3 g3 r3 => ?_⟩
            cases r3
            refine ⟨true, rfl, iteT ⟨F3, ρ2, I2.grow g3, z, ρ', e4, fun w4 H4 F4 x4 I4 r4 => ?_⟩⟩
            exact ⟨F4, y, z, _, I4.fh, (r2.ext g3.f).ext x4, r4, e5, fun v5 H5 F5 g5 r5 => q _ _ _ (((x1.trans x2).trans g3.f).trans (x4.trans g5.f)) (I4.grow g5) r5⟩
          · cases e
        · cases e
      · rename_i e3
        cases e
        refine ⟨F2, x, y, _, I2.fh, r1.ext x2, r2, e3, fun v3 H3 F3 g3 r3 => ?_⟩
        cases r3
        exact ⟨false, rfl, iteF (q _ _ _ ((x1.trans x2).trans g3.f) (I2.grow g3) (.bl _))⟩
      · cases e
    · cases e
  · cases e
theorem vt_chain {op op' : CmpOp} {g g' : G2} {a b d : Expr} {sa sb sd : SE} {pos} (ho : OpD c X (compareOp op) g) (ho' : OpD c X (compareOp op') g') (ha : PE X a (vt c sa)) (hb : PE X b (vt c sb)) (hd : PE X d (vt c sd))
    (hm : lastMarks [op, op'] [b, d] = false := by with_unfolding_all rfl) : PT X (.Compare a [op, op'] [b, d] pos) (vb c (sB (sCh g g' sa sb sd))) :=
  pt_of (pt_chain ho ho' ha hb hd hm) fun _ _ _ h => vb_test (chain_w _ _) h

def bOr (a b : SB) : SB := fun ρ => match a ρ with
  | some (true, ρ1) => some (true, ρ1)
  | some (false, ρ1) => b ρ1
  | none => none
def bNot (a : SB) : SB := fun ρ => match a ρ with
  | some (b, ρ1) => some (!b, ρ1)
  | none => none
theorem or_w {sa sb : SB} (σ : L2.St) (H : Hp) (Q : Bool → Hp → Prop) (h : vb c (bOr sa sb) σ H Q) : tOr (vb c sa) (vb c sb) σ H Q := by
  obtain ⟨F, ρ, I, b, ρ', e, q⟩ := h
  unfold bOr at e
  split at e
  · rename_i ρ1 e1
    cases e
    exact ⟨F, ρ, I, true, ρ', e1, fun H1 F1 x1 I1 => iteT (q _ _ x1 I1)⟩
  · rename_i ρ1 e1
    exact ⟨F, ρ, I, false, ρ1, e1, fun H1 F1 x1 I1 => iteF ⟨F1, ρ1, I1, b, ρ', e, fun H2 F2 x2 I2 => q _ _ (x1.trans x2) I2⟩⟩
  · cases e
theorem vw_or {a b : Expr} {rest : List Expr} {pos} {sa sb : SB} (ha : PT X a (vb c sa)) (hb : PW X (.BoolOp .Or (b :: rest) pos) (vb c sb)) : PW X (.BoolOp .Or (a :: b :: rest) pos) (vb c (bOr sa sb)) :=
  ⟨fun wh pins s σ H Q I q => (pw_or ha hb).run wh pins s σ H Q I (or_w σ H Q q)⟩
theorem vt_not {a : Expr} {pos} {sa : SB} (ha : PT X a (vb c sa)) : PT X (.UnaryOp .Not a pos) (vb c (bNot sa)) := by
  refine pt_of (pt_not ha) fun σ H Q ⟨F, ρ, I, b, ρ', e, q⟩ => ?_
  unfold bNot at e
  split at e
  · rename_i b' ρ1 e1
    cases e
    exact ⟨F, ρ, I, b', ρ', e1, q⟩
  · cases e
def sAnd (a b : SE) : SE := fun ρ => match a ρ with
  | some (.bl true, ρ1) => b ρ1
  | some (.bl false, ρ1) => some (.bl false, ρ1)
  | _ => none
def gNot : G1
  | .bl b => some (.bl (!b))
  | _ => none
theorem ve_and {a b : Expr} {rest : List Expr} {pos} {sa sb : SE} (ha : PE X a (vt c sa)) (hb : PE X (.BoolOp .And (b :: rest) pos) (vt c sb)) : PE X (.BoolOp .And (a :: b :: rest) pos) (vt c (sAnd sa sb)) := by
  refine pe_of (pe_and ha hb) fun σ H Q ⟨F, ρ, I, d, ρ', e, q⟩ => ?_
  unfold sAnd at e
  split at e
  · rename_i ρ1 e1
    exact ⟨F, ρ, I, _, ρ1, e1, fun v H1 F1 x1 I1 r1 => by cases r1; exact ⟨true, rfl, iteT ⟨F1, ρ1, I1, d, ρ', e, fun v H2 F2 x2 I2 r2 => q _ _ _ (x1.trans x2) I2 r2⟩⟩⟩
  · rename_i ρ1 e1
    cases e
    exact ⟨F, ρ, I, _, ρ', e1, fun v H1 F1 x1 I1 r1 => by cases r1; exact ⟨false, rfl, iteF (q _ _ _ x1 I1 (.bl _))⟩⟩
  · cases e
theorem ve_one {a : Expr} {op} {pos} {sa : SE} (ha : PE X a (vt c sa)) : PE X (.BoolOp op [a] pos) (vt c sa) := pe_one ha
theorem ve_not {a : Expr} {pos} {sa : SE} (ha : PE X a (vt c sa)) : PE X (.UnaryOp .Not a pos) (vt c (s1 gNot sa)) := by
  refine pe_of (pe_not ha) fun σ H Q ⟨F, ρ, I, d, ρ', e, q⟩ => ?_
  obtain ⟨x, e1, e2⟩ := s1_inv e
  unfold gNot at e2
  split at e2
  · cases e2
    exact ⟨F, ρ, I, _, ρ', e1, fun v H1 F1 x1 I1 r1 => by cases r1; exact ⟨_, rfl, q _ _ _ x1 I1 (.bl _)⟩⟩
  · cases e2
end
end VS

set_option Elab.async false
set_option linter.all false
set_option maxRecDepth 100000
set_option maxHeartbeats 4000000
namespace VS
open PySem PySem.Spec PyProof.Rows L2

abbrev SA := Rho → Option (List D × Rho)
def va (c : Ctx) (s : SA) : TA := fun σ H Q => ∃ F ρ, Ok c F H σ ρ ∧ ∃ ds ρ', s ρ = some (ds, ρ') ∧ ∀ vs H' F', Ext F F' → Ok c F' H' σ ρ' → Reps c.G F' vs ds → Q vs H'
def aN : SA := fun ρ => some ([], ρ)
def aC (a : SE) (r : SA) : SA := fun ρ => match a ρ with
  | some (x, ρ1) => match r ρ1 with
    | some (xs, ρ2) => some (x :: xs, ρ2)
    | none => none
  | none => none
section
variable {c : Ctx} {X : Cx}
theorem va_nil : PA X [] (va c aN) := pa_of pa_nil fun σ H Q ⟨F, ρ, I, ds, ρ', e, q⟩ => by cases e; exact q [] H F Ext.rfl' I .nil
theorem va_cons {e : Expr} {es : List Expr} {a : SE} {r : SA} (ha : PE X e (vt c a)) (hr : PA X es (va c r)) (hs : starEach (e :: es) X.env = (false, eval e X.env) :: starEach es X.env := by rfl) : PA X (e :: es) (va c (aC a r)) :=
  pa_of (pa_cons ha hr hs) fun σ H Q ⟨F, ρ, I, ds, ρ', e, q⟩ => by
    unfold aC at e
    split at e
    · rename_i x ρ1 e1
      split at e
      · rename_i xs ρ2 e2
        cases e
        exact ⟨F, ρ, I, x, ρ1, e1, fun v H1 F1 x1 I1 r1 => ⟨F1, ρ1, I1, xs, ρ', e2, fun vs H2 F2 x2 I2 r2 => q _ _ _ (x1.trans x2) I2 (.cons (r1.ext x2) r2)⟩⟩
      · cases e
    · cases e
def sL (g : GL) (a : SA) : SE := fun ρ => match a ρ with
  | some (xs, ρ1) => match g xs with
    | some d => some (d, ρ1)
    | none => none
  | none => none
theorem sL_inv {g : GL} {a : SA} {ρ : Rho} {d : D} {ρ' : Rho} (h : sL g a ρ = some (d, ρ')) : ∃ xs, a ρ = some (xs, ρ') ∧ g xs = some d := by
  unfold sL at h
  split at h
  · split at h
    · cases h; exact ⟨_, by assumption, by assumption⟩
    · cases h
  · cases h
theorem vtL {g : GL} {sa : SA} {σ : L2.St} {H : Hp} {Q : VK} (h : vt c (sL g sa) σ H Q) : va c sa σ H fun xs H1 => rL c.G g xs H1 Q := by
  obtain ⟨F, ρ, I, d, ρ', e, q⟩ := h
  obtain ⟨xs, e1, e2⟩ := sL_inv e
  exact ⟨F, ρ, I, xs, ρ', e1, fun vs H1 F1 x1 I1 r1 => ⟨F1, xs, d, I1.fh, r1, e2, fun v H' F' g r => q v H' F' (x1.trans g.f) (I1.grow g) r⟩⟩
def gTup : GL := fun xs => if xs.length ≤ LN then some (.tup xs) else none
def gLst : GL := fun xs => if xs.length ≤ LN then some (.lst xs) else none
theorem ve_tup {es : List Expr} {k pos} {sa : SA} (h : PA X es (va c sa)) : PE X (.Tuple es k pos) (vt c (sL gTup sa)) :=
  pe_of (pe_tup h) fun σ H Q q => by
    obtain ⟨F, ρ, I, ds, ρ', e, q⟩ := vtL q
    refine ⟨F, ρ, I, ds, ρ', e, fun vs H' F' x I' r => ?_⟩
    obtain ⟨F1, es, d, e1, r1, hg, q1⟩ := q vs H' F' x I' r
    unfold gTup at hg
    split at hg
    · rename_i hz
      cases hg
      exact ⟨by rw [r1.length]; exact ln_fit hz, fun p hp => q1.newT e1 r1 p hp⟩
    · cases hg
theorem ve_lst {es : List Expr} {pos} {sa : SA} (h : PA X es (va c sa)) : PE X (.List es pos) (vt c (sL gLst sa)) :=
  pe_of (pe_lst h) fun σ H Q q => by
    obtain ⟨F, ρ, I, ds, ρ', e, q⟩ := vtL q
    refine ⟨F, ρ, I, ds, ρ', e, fun vs H' F' x I' r => ?_⟩
    obtain ⟨F1, es, d, e1, r1, hg, q1⟩ := q vs H' F' x I' r
    unfold gLst at hg
    split at hg
    · rename_i hz
      cases hg
      exact ⟨by rw [r1.length]; exact ln_fit hz, fun p hp => q1.newL e1 r1 p hp⟩
    · cases hg
theorem ve_callB {id : String} {g : GL} {x : Str} {p pos : Pos} {e : Expr} {es : List Expr} {sa : SA} (hc : CaD c X (.builtin id) g) (hm : X.mg x = none) (hv : bootBuiltins x = some (.builtin id)) (ha : PA X (e :: es) (va c sa)) (hg : Gl X x := by rfl)
    (hn : x ≠ "__name__" := by decide) (hdb : (x == ("__debug__" : Str)) = false := by decide)
    (he : starEach (e :: es) X.env = (false, eval e X.env) :: starEach es X.env := by rfl) (hpl : (backTo pos (starEach es X.env)).any (·.1) = false := by rfl) : PE X (.Call (.Name x p) (e :: es) [] pos) (vt c (sL g sa)) :=
  pe_of (pe_callB hc hg hm hv ha hn hdb he hpl) fun _ _ _ q => vtL q
theorem ve_callT {T : String} {g : GL} {x : Str} {p pos : Pos} {e : Expr} {es : List Expr} {sa : SA} (hc : CaD c X (.type T) g) (hm : X.mg x = none) (hv : bootBuiltins x = some (.type T)) (ha : PA X (e :: es) (va c sa)) (hg : Gl X x := by rfl)
    (hn : x ≠ "__name__" := by decide) (hdb : (x == ("__debug__" : Str)) = false := by decide)
    (he : starEach (e :: es) X.env = (false, eval e X.env) :: starEach es X.env := by rfl) (hpl : (backTo pos (starEach es X.env)).any (·.1) = false := by rfl) : PE X (.Call (.Name x p) (e :: es) [] pos) (vt c (sL g sa)) :=
  pe_of (pe_callTy hc hg hm hv ha hn hdb he hpl) fun _ _ _ q => vtL q
end

def gLen : GL
  | [.str x] => if x.length ≤ LN then some (.int x.length) else none
  | [.lst xs] => some (.int xs.length)
  | [.tup xs] => some (.int xs.length)
  | [.scr xs] => some (.int xs.length)
  | _ => none
def gInt : GL
  | [.int i] => some (.int i)
  | [.bl k] => some (.int (if k then 1 else 0))
  | _ => none
def toIs : List D → Option (List Int)
  | [] => some []
  | .int i :: r => match toIs r with
    | some is => some (i :: is)
    | none => none
  | _ => none
def strs' : List D → Option (List Str)
  | [] => some []
  | .str i :: r => match strs' r with
    | some is => some (i :: is)
    | none => none
  | _ => none
def imax : List Int → Int
  | [] => 0
  | [a] => a
  | a :: r => max a (imax r)
def gMax : GL
  | [.int i, .int j] => some (.int (if j > i then j else i))
  | [.lst xs] => match toIs xs with
    | some (i :: r) => some (.int (imax (i :: r)))
    | _ => none
  | _ => none
def gStr : GL
  | [.str x] => some (.str x)
  | _ => none
def gList : GL
  | [.lst xs] => some (.lst xs)
  | [.tup xs] => some (.lst xs)
  | _ => none
def gTuple : GL
  | [.lst xs] => some (.tup xs)
  | [.tup xs] => some (.tup xs)
  | _ => none
theorem ints_reps {G : Gx} {F : Hp} : ∀ {vs : List V} {ds : List D} {is : List Int}, Reps G F vs ds → toIs ds = some is → vs = is.map V.int
  | _, _, _, .nil, h => by unfold toIs at h; cases h; rfl
  | _, _, _, .cons h1 r, h => by
    unfold toIs at h
    split at h
    · rename_i hq; exact absurd hq (by simp)
    · split at h
      · rename_i he _ js hj
        cases h; injection he with e1 e2; subst e1 e2; cases h1; rw [ints_reps r hj]; rfl
      · cases h
    · cases h
theorem reps_ints {G : Gx} {F : Hp} : ∀ is : List Int, Reps G F (is.map V.int) (is.map D.int)
  | [] => .nil
  | i :: r => .cons (.int i) (reps_ints r)
theorem imax_mem : ∀ (i : Int) (r : List Int), imax (i :: r) ∈ i :: r
  | i, [] => by simp [imax]
  | i, j :: r => by
    have := imax_mem j r
    unfold imax
    by_cases h : imax (j :: r) ≤ i
    · rw [Int.max_eq_left h]; exact List.mem_cons_self
    · rw [Int.max_eq_right (by omega)]; exact List.mem_cons_of_mem _ this
theorem imax_le : ∀ (i : Int) (r : List Int) (y : Int), y ∈ i :: r → y ≤ imax (i :: r)
  | i, [], y, h => by simp at h; subst h; simp [imax]
  | i, j :: r, y, h => by
    unfold imax
    rcases List.mem_cons.mp h with h | h
    · subst h; exact Int.le_max_left _ _
    · exact Int.le_trans (imax_le j r y h) (Int.le_max_right _ _)
section
variable {c : Ctx} {X : Cx}
theorem ca_len (hK : X.K = c.G.K) : CaD c X (.builtin "len") gLen := car_of call_len fun xs H Q ⟨F, ds, d, e, r, hg, q⟩ => by
  unfold gLen at hg
  split at hg
  · split at hg
    · rename_i h
      cases hg
      cases r with
      | cons r1 r2 => cases r2; cases r1; exact ⟨_, _, rfl, ⟨ln_fit h, rfl⟩, q.here e (.int _)⟩
    · cases hg
  · cases hg
    cases r with
    | cons r1 r2 =>
      cases r2
      cases r1 with
      | lst h1 rs => exact ⟨_, _, rfl, .inl ⟨_, .of (e _ _ h1), rfl⟩, by rw [rs.length]; exact q.here e (.int _)⟩
  · cases hg
    cases r with
    | cons r1 r2 =>
      cases r2
      cases r1 with
      | tup h1 rs => exact ⟨_, _, rfl, .inr ⟨_, .of (e _ _ h1), rfl⟩, by rw [rs.length]; exact q.here e (.int _)⟩
  · cases hg
    cases r with
    | cons r1 r2 =>
      cases r2
      cases r1 with
      | scr h1 rs => exact ⟨_, _, rfl, .inl ⟨_, hK ▸ h1.ext e, rfl⟩, by rw [rs.length]; exact q.here e (.int _)⟩
  · cases hg
theorem ca_int : CaD c X (.type "int") gInt := car_of call_int1 fun xs H Q ⟨F, ds, d, e, r, hg, q⟩ => by
  unfold gInt at hg
  split at hg
  · cases hg
    cases r with
    | cons r1 r2 => cases r2; cases r1; exact .inl ⟨_, rfl, q.here e (.int _)⟩
  · cases hg
    cases r with
    | cons r1 r2 => cases r2; cases r1; exact .inr ⟨_, rfl, q.here e (.int _)⟩
  · cases hg
theorem lst1 {F H : Hp} {xs : List V} {ds : List D} (e : Ext F H) (r : Reps c.G F xs [.lst ds]) : ∃ a vs, xs = [.ref a] ∧ H a = some (.lst vs) ∧ Reps c.G F vs ds := by
  cases r with
  | cons r1 r2 =>
    cases r2
    cases r1 with
    | lst h1 rs => exact ⟨_, _, rfl, e _ _ h1, rs⟩
theorem tup1 {F H : Hp} {xs : List V} {ds : List D} (e : Ext F H) (r : Reps c.G F xs [.tup ds]) : ∃ a vs, xs = [.ref a] ∧ F a = some (.tup vs) ∧ H a = some (.tup vs) ∧ Reps c.G F vs ds := by
  cases r with
  | cons r1 r2 =>
    cases r2
    cases r1 with
    | tup h1 rs => exact ⟨_, _, rfl, h1, e _ _ h1, rs⟩
theorem ca_max (hc : X.calm = true) : CaD c X (.builtin "max") gMax := car_of ((call_max2 hc).or (cr_max hc)) fun xs H Q ⟨F, ds, d, e, r, hg, q⟩ => by
  unfold gMax at hg
  split at hg
  · cases hg
    cases r with
    | cons r1 r2 =>
      cases r2 with
      | cons r2 r3 => cases r3; cases r1; cases r2; exact .inl ⟨_, _, rfl, q.here e (.int _)⟩
  · split at hg
    · rename_i i r' hi
      cases hg
      obtain ⟨a, vs, h1, h2, rs⟩ := lst1 e r
      refine .inr ⟨a, _, h1, .of (ints_reps rs hi ▸ h2), by simp, fun m m1 m2 => ?_⟩
      have : m = imax (i :: r') := Int.le_antisymm (imax_le _ _ _ m1) (m2 _ (imax_mem _ _))
      subst this
      exact q.here e (.int _)
    · cases hg
  · cases hg
theorem ca_str : CaD c X (.type "str") gStr := car_of SkE.call_str_str fun xs H Q ⟨F, ds, d, e, r, hg, q⟩ => by
  unfold gStr at hg
  split at hg
  · cases hg
    cases r with
    | cons r1 r2 => cases r2; cases r1; exact ⟨_, rfl, q.here e (.str _)⟩
  · cases hg
theorem ca_list : CaD c X (.type "list") gList := car_of call_list_of fun xs H Q ⟨F, ds, d, e, r, hg, q⟩ => by
  unfold gList at hg
  split at hg
  · cases hg
    obtain ⟨a, vs, h1, h2, rs⟩ := lst1 e r
    exact ⟨a, _, h1, .inl (.of h2), fun p hp => q.newL e rs p hp⟩
  · cases hg
    obtain ⟨a, vs, h1, _, h2, rs⟩ := tup1 e r
    exact ⟨a, _, h1, .inr (.of h2), fun p hp => q.newL e rs p hp⟩
  · cases hg
theorem ca_tuple : CaD c X (.type "tuple") gTuple := car_of call_tuple_of fun xs H Q ⟨F, ds, d, e, r, hg, q⟩ => by
  unfold gTuple at hg
  split at hg
  · cases hg
    obtain ⟨a, vs, h1, h2, rs⟩ := lst1 e r
    exact ⟨a, _, h1, .inl ⟨.of h2, fun p hp => q.newT e rs p hp⟩⟩
  · cases hg
    obtain ⟨a, vs, h1, h0, h2, rs⟩ := tup1 e r
    exact ⟨a, _, h1, .inr ⟨.of h2, q.here e (.tup h0 rs)⟩⟩
  · cases hg
end

def gIx : G2
  | .lst xs, .int k => atI xs k
  | .tup xs, .int k => atI xs k
  | .scr xs, .int k => atI xs k
  | .str z, .int k => if z.length ≤ LN then (atI z.cps.toList k).map fun n => .str ⟨#[n]⟩ else none
  | _, _ => none
theorem Reps.atI {G : Gx} {F : Hp} {vs : List V} {ds : List D} {k : Int} {d : D} (r : Reps G F vs ds) (h : L2.atI ds k = some d) : ∃ v, L2.atI vs k = some v ∧ Rep G F v d := by
  unfold L2.atI at h ⊢
  rw [r.length]
  cases e : ixN ds.length k with
  | none => rw [e] at h; cases h
  | some j => rw [e] at h; exact r.get (i := j) h
section
variable {c : Ctx} {X : Cx}
theorem ix_ok (hK : X.K = c.G.K) : IxR X (rD c.G gIx) := by
  intro value slice pins s σ H x y v u Q I rx ry h hs
  refine ix_seq value slice pins s σ H x y v u Q I rx ry ?_ hs
  obtain ⟨F, a, b, d, e, ra, rb, hg, q⟩ := h
  unfold gIx at hg
  split at hg
  · cases ra with
    | lst h1 rs =>
      cases rb
      obtain ⟨v, h2, h3⟩ := rs.atI hg
      exact .inl ⟨_, _, _, _, rfl, rfl, .of (e _ _ h1), h2, q.here e h3⟩
  · cases ra with
    | tup h1 rs =>
      cases rb
      obtain ⟨v, h2, h3⟩ := rs.atI hg
      exact .inr (.inl ⟨_, _, _, _, rfl, rfl, .of (e _ _ h1), h2, q.here e h3⟩)
  · cases ra with
    | scr h1 rs =>
      cases rb
      obtain ⟨v, h2, h3⟩ := rs.atI hg
      exact .inl ⟨_, _, _, _, rfl, rfl, hK ▸ h1.ext e, h2, q.here e h3⟩
  · split at hg
    · rename_i z k hz
      cases ra; cases rb
      cases h2 : L2.atI z.cps.toList k with
      | none => rw [h2] at hg; cases hg
      | some n =>
        rw [h2] at hg
        cases hg
        exact .inr (.inr ⟨_, _, _, rfl, rfl, ln_fit hz, h2, q.here e (.str _)⟩)
    · cases hg
  · cases hg
theorem ve_ix {a b : Expr} {sa sb : SE} {pos} (hK : X.K = c.G.K) (ha : PE X a (vt c sa)) (hb : PE X b (vt c sb)) (hs : PlainIx b := by exact fun _ _ => rfl) : PE X (.Subscript a b pos) (vt c (s2 gIx sa sb)) :=
  pe_of (pe_ix (ix_ok hK) ha hb hs) fun _ _ _ h => vt2 h
def conM (ρ : Rho) (i : Nat) : Option (List D) := match ρ[i]? with
  | some (.own xs) => some xs
  | some (.bor xs) => some xs
  | _ => none
theorem Ok.own {F H : Hp} {σ : L2.St} {ρ : Rho} (I : Ok c F H σ ρ) {i : Nat} {xs : List D} (h : conM ρ i = some xs) :
    ∃ p vs, σ[i]? = some (some (V.ref p)) ∧ H p = some (.lst vs) ∧ F p = none ∧ Reps c.G F vs xs := by
  unfold conM at h
  split at h
  · rename_i ys hy
    cases h
    obtain ⟨ov, h1, h2⟩ := I.sl i _ hy
    cases ov with
    | none => exact h2.elim
    | some v =>
      obtain ⟨p, e, _, hf, vs, hh, r⟩ := h2
      subst e
      exact ⟨p, vs, h1, hh, hf, r⟩
  · rename_i ys hy
    cases h
    obtain ⟨ov, h1, h2⟩ := I.sl i _ hy
    cases ov with
    | none => exact h2.elim
    | some v =>
      obtain ⟨p, e, _, hf, vs, hh, r⟩ := h2
      subst e
      exact ⟨p, vs, h1, hh, hf, r⟩
  · cases h
def sIxM (i : Nat) (b : SE) : SE := fun ρ => match conM ρ i with
  | none => none
  | some _ => match b ρ with
    | some (.int k, ρ1) => match conM ρ1 i with
      | some xs => match L2.atI xs k with
        | some d => some (d, ρ1)
        | none => none
      | none => none
    | _ => none
theorem ve_ixM {a b : Expr} {i : Nat} {sb : SE} {pos} (ha : PE X a (tVar i)) (hb : PE X b (vt c sb)) (hs : PlainIx b := by exact fun _ _ => rfl) : PE X (.Subscript a b pos) (vt c (sIxM i sb)) := by
  refine pe_of (pe_ix ix_list ha hb hs) fun σ H Q ⟨F, ρ, I, d, ρ', e, q⟩ => ?_
  unfold sIxM at e
  split at e
  · cases e
  · rename_i xs0 e0
    obtain ⟨p, vs0, h0, _⟩ := I.own e0
    split at e
    · rename_i k ρ1 e1
      split at e
      · rename_i xs e2
        split at e
        · rename_i d' e3
          cases e
          refine ⟨_, h0, F, ρ, I, _, ρ', e1, fun w H1 F1 x1 I1 r1 => ?_⟩
          obtain ⟨p', vs, h1, h2, h3, h4⟩ := I1.own e2
          rw [h0] at h1
          cases h1
          cases r1
          obtain ⟨u, g1, g2⟩ := h4.atI e3
          exact ⟨_, vs, k, u, rfl, rfl, .of h2, g1, q u H1 F1 x1 I1 g2⟩
        · cases e
      · cases e
    · cases e
end
end VS

set_option Elab.async false
set_option linter.all false
set_option maxRecDepth 100000
set_option maxHeartbeats 4000000
namespace VS
open PySem PySem.Spec PyProof.Rows L2

abbrev SO := Rho → Option (Option Int × Rho)
def vo (c : Ctx) (s : SO) : TO := fun σ H Q => ∃ F ρ, Ok c F H σ ρ ∧ ∃ o ρ', s ρ = some (o, ρ') ∧ ∀ H' F', Ext F F' → Ok c F' H' σ ρ' → Q o H'
def oN : SO := fun ρ => some (none, ρ)
def oS (a : SE) : SO := fun ρ => match a ρ with
  | some (.int i, ρ') => some (some i, ρ')
  | _ => none
def cutD (xs : List D) (lo hi : Option Int) : List D := (xs.drop (HT.sIx xs.length 0 lo)).take (HT.sIx xs.length xs.length hi - HT.sIx xs.length 0 lo)
def gSl : D → Option Int → Option Int → Option D
  | .lst xs, lo, hi => some (.lst (cutD xs lo hi))
  | .tup xs, lo, hi => some (.tup (cutD xs lo hi))
  | _, _, _ => none
def sSl (a : SE) (lo hi : SO) : SE := fun ρ => match a ρ with
  | some (x, ρ1) => match lo ρ1 with
    | some (l, ρ2) => match hi ρ2 with
      | some (h, ρ3) => match gSl x l h with
        | some d => some (d, ρ3)
        | none => none
      | none => none
    | none => none
  | none => none
section
variable {c : Ctx} {X : Cx}
theorem vo_none : PO X none (vo c oN) := ⟨fun pins s σ H Q I ⟨F, ρ, I', o, ρ', e, q⟩ => by
  cases e
  exact po_none.run pins s σ H Q I (q H F Ext.rfl' I')⟩
theorem vo_some {e : Expr} {a : SE} (h : PE X e (vt c a)) : PO X (some e) (vo c (oS a)) := ⟨fun pins s σ H Q I ⟨F, ρ, I', o, ρ', e, q⟩ => by
  refine (po_some h).run pins s σ H Q I ?_
  unfold oS at e
  split at e
  · rename_i i ρ1 e1
    cases e
    exact ⟨F, ρ, I', _, ρ', e1, fun v H' F' x I1 r => by cases r; exact ⟨_, rfl, q H' F' x I1⟩⟩
  · cases e⟩
theorem Reps.cut {G : Gx} {F : Hp} {vs : List V} {ds : List D} (r : Reps G F vs ds) (lo hi : Option Int) : Reps G F (cutV vs lo hi) (cutD ds lo hi) := by
  unfold cutV cutD
  rw [r.length]
  exact (r.drop _).take _
theorem cut_whole {vs : List V} {lo hi : Option Int} (h1 : HT.sIx vs.length 0 lo = 0) (h2 : HT.sIx vs.length vs.length hi = vs.length) : cutV vs lo hi = vs := by
  unfold cutV
  rw [h1, h2]
  simp
theorem ve_slice {a : Expr} {lo hi : Option Expr} {sa : SE} {sl sh : SO} {p2 pos} (ha : PE X a (vt c sa)) (hl : PO X lo (vo c sl)) (hh : PO X hi (vo c sh)) : PE X (.Subscript a (.Slice lo hi none p2) pos) (vt c (sSl sa sl sh)) := by
  refine pe_of (pe_slice (sl_list.or sl_tupA) ha hl hh) fun σ H Q ⟨F, ρ, I, d, ρ', e, q⟩ => ?_
  unfold sSl at e
  split at e
  · rename_i x ρ1 e1
    split at e
    · rename_i l ρ2 e2
      split at e
      · rename_i h ρ3 e3
        split at e
        · rename_i d' e4
          cases e
          refine ⟨F, ρ, I, x, ρ1, e1, fun v H1 F1 x1 I1 r1 => ⟨F1, ρ1, I1, l, ρ2, e2, fun H2 F2 x2 I2 => ⟨F2, ρ2, I2, h, ρ', e3, fun H3 F3 x3 I3 => ?_⟩⟩⟩
          have r1' := (r1.ext x2).ext x3
          have q' : Aft c.G F3 H3 d Q := fun v H' F' g r => q v H' F' (((x1.trans x2).trans x3).trans g.f) (I3.grow g) r
          unfold gSl at e4
          split at e4
          · cases e4
            cases r1' with
            | lst h1 rs => exact .inl ⟨_, _, rfl, .of (I3.fh _ _ h1), fun p hp => q'.newL I3.fh (rs.cut _ _) p hp⟩
          · cases e4
            cases r1' with
            | tup h1 rs =>
              refine .inr ⟨_, _, rfl, .of (I3.fh _ _ h1), fun ⟨w1, w2⟩ => ?_, fun _ p hp => q'.newT I3.fh (rs.cut _ _) p hp⟩
              have rc := rs.cut l h
              rw [cut_whole w1 w2] at rc
              exact q'.here I3.fh (.tup h1 rc)
          · cases e4
        · cases e
      · cases e
    · cases e
  · cases e
end

def look (f : Str) : List Str → Option Nat
  | [] => none
  | g :: r => if f = g then some 0 else (look f r).map (· + 1)
theorem lookup_of {f : Str} : ∀ {fs : List (Str × V)} {j : Nat}, look f (fs.map (·.1)) = some j → fs.lookup f = (fs.map (·.2))[j]?
  | [], j, h => by simp [look] at h
  | (g, v) :: r, j, h => by
    simp only [List.map_cons, look] at h
    by_cases e : f = g
    · rw [if_pos e] at h; cases h
      have hb : (f == g) = true := beq_iff_eq.mpr e
      simp [List.lookup, hb]
    · rw [if_neg e] at h
      have hb : (f == g) = false := beq_eq_false_iff_ne.mpr e
      cases h2 : look f (r.map (·.1)) with
      | none => rw [h2] at h; cases h
      | some i =>
        rw [h2] at h; cases h
        have := lookup_of h2
        simp only [List.lookup, hb, List.map_cons, List.getElem?_cons_succ]
        exact this
def gFld (k j : Nat) : G1
  | .ins k' ds => if k' = k then ds[j]? else none
  | _ => none
section
variable {c : Ctx} {X : Cx}
theorem ve_fld {e : Expr} {f : Str} {pos : Pos} {s : SE} (k j : Nat) (he : PE X e (vt c s)) (cl : Cls X.K (c.G.cls k)) (n : NoAttr X.K (c.G.cls k) f) (hj : look f (c.G.fld k) = some j) (hb : attributeBase e f X.env (eval e X.env) = eval e X.env := by rfl) :
    PE X (.Attribute e f pos) (vt c (s1 (gFld k j) s)) := by
  refine pe_of (pe_fld he hb) fun σ H Q ⟨F, ρ, I, d, ρ', e, q⟩ => ?_
  obtain ⟨x, e1, e2⟩ := s1_inv e
  unfold gFld at e2
  split at e2
  · rename_i k' ds
    split at e2
    · rename_i hk
      subst hk
      refine ⟨F, ρ, I, _, ρ', e1, fun v H1 F1 x1 I1 r1 => ?_⟩
      cases r1 with
      | ins h1 hn rs =>
        obtain ⟨u, g1, g2⟩ := rs.get e2
        refine ⟨_, _, _, _, u, rfl, I1.fh _ _ h1, cl, n, ?_, q u H1 F1 x1 I1 g2⟩
        rw [lookup_of (j := j) (by rw [hn]; exact hj)]
        exact g1
    · cases e2
  · cases e2
end

abbrev Mir := List Sl → Option (D × List D)
inductive ArgOk (G : Gx) (F H : Hp) : List Addr → List V → List Sl → Prop
  | vals {vs : List V} {ds : List D} : Reps G F vs ds → ArgOk G F H [] vs (ds.map .val)
  | bor {p : Addr} {vs us : List V} {xs ds : List D} : F p = none → H p = some (.lst us) → Reps G F us xs → Reps G F vs ds → ArgOk G F H [p] (.ref p :: vs) (.bor xs :: ds.map .val)
  | slf {p dx : Addr} {k : Nat} {vs : List V} {ds : List D} : F p = none → H p = some (.ins (G.cls k) dx []) → Reps G F vs ds → ArgOk G F H [p] (.ref p :: vs) (.slf k [] :: ds.map .val)
  | lam {v : V} {d : D} {f : Addr} {h : D → D → Option D} : Rep G F v d → LamAt G F H f h → ArgOk G F H [] [v, .ref f] [.val d, .lam h]
def Out (G : Gx) (F H : Hp) (B : List Addr) (sl : List Sl) (out : List D) : Prop := ∀ p ∈ B, F p = none ∧ match sl with
  | .bor _ :: _ => ∃ us, H p = some (.lst us) ∧ Reps G F us out
  | .slf k _ :: _ => ∃ dx fs, H p = some (.ins (G.cls k) dx fs) ∧ (∃ n, fs.map (·.1) = (G.fld k).take n) ∧ Reps G F (fs.map (·.2)) out
  | _ => False
theorem nt_lst {xs : List V} : ∀ ps, HO.lst xs ≠ .tbl ps := fun ps z => by cases z
theorem nt_ins {a b : Addr} {fs : List (Str × V)} : ∀ ps, HO.ins a b fs ≠ .tbl ps := fun ps z => by cases z
theorem nt_raw {w : World} {p : Addr} {xs : List DEnt} : ∀ ps, rawO w p xs ≠ .tbl ps := fun ps z => by unfold rawO at z; cases z
theorem nt_dK {kvs : List (Key × V)} : ∀ ps, HO.dK kvs ≠ .tbl ps := fun ps z => by cases z
theorem DicAt.keep {w : World} {b : Bool} {F F' H H' : Hp} {p : Addr} {ks : List NestedKey} {vs : List V} (e : Ext F F') (h : ∀ o, H p = some o → (∀ ps, o ≠ .tbl ps) → H' p = some o) (d : DicAt w b none F H p ks vs) : DicAt w b none F' H' p ks vs := by
  cases b with
  | true => obtain ⟨xs, d⟩ := d; exact ⟨xs, d.ext e fun z => h _ z nt_raw⟩
  | false => obtain ⟨kvs, d, r⟩ := d; exact ⟨kvs, h _ d nt_dK, r⟩
def spV (G : Gx) (n : Nat) (m : Mir) : Sp := fun vs H Q _ => ∃ F B sl, Ext F H ∧ TbOk G.T F H ∧ ArgOk G F H B vs sl ∧ sl.length = n ∧ ∃ d out, m sl = some (d, out) ∧
  ∀ v H' F', Keep G.T B F H F' H' → Out G F' H' B sl out → Rep G F' v d → Q v H'
structure Cal (P : Program) (w : World) (G : Gx) (mg : Str → Option Value) (base : Heap) (x : Str) (k n : Nat) (m : Mir) : Prop where
  ex : ∃ (f : Addr) (fd : FuncData) (ps : List Str), mg x = some (.ref f) ∧ PySem.W.keepIn G.K (.ref f) = true ∧ Binds G.K fd ps [] ∧ FnOk P w G.K mg base CX0 k f fd ps (spV G n m)
def sCall (n : Nat) (m : Mir) (a : SA) : SE := fun ρ => match a ρ with
  | some (xs, ρ1) => if xs.length = n then match m (xs.map .val) with
    | some (d, _) => some (d, ρ1)
    | none => none
    else none
  | none => none
def setM (ρ : Rho) (i : Nat) (xs : List D) : Rho := match ρ[i]? with
  | some (.own _) => ρ.set i (.own xs)
  | some (.bor _) => ρ.set i (.bor xs)
  | _ => ρ
def sCallM (n : Nat) (m : Mir) (i : Nat) (a : SA) : SE := fun ρ => match conM ρ i with
  | none => none
  | some _ => match a ρ with
    | some (xs, ρ1) => if xs.length + 1 = n then match conM ρ1 i with
      | some ys => match m (.bor ys :: xs.map .val) with
        | some (d, out) => some (d, setM ρ1 i out)
        | none => none
      | none => none
      else none
    | none => none
theorem ArgOk.length {G : Gx} {F H : Hp} {B : List Addr} {vs : List V} {sl : List Sl} (a : ArgOk G F H B vs sl) : vs.length = sl.length := by
  cases a with
  | vals r => simp [r.length]
  | bor _ _ _ r => simp [r.length]
  | slf _ _ r => simp [r.length]
  | lam _ _ => rfl
theorem Ok.kept {c : Ctx} {F H F' H' : Hp} {σ : L2.St} {ρ : Rho} {B : List Addr} (I : Ok c F H σ ρ) (k : Keep c.G.T B F H F' H') (hB : ∀ q ∈ B, c.H0 q = none) (hL : ∀ q ∈ B, ∀ o, H q = some o → ¬ LamL o) (ap : ∀ (j : Nat) (s : Sl) (q : Addr), ρ[j]? = some s → s.mut = true → σ[j]? = some (some (V.ref q)) → q ∉ B) : Ok c F' H' σ ρ := by
  refine ⟨I.len, I.f0.trans k.f, k.fh, fun q o h1 h2 h3 => k.h q o (I.fr q o h1 h2 h3) (fun z => by rw [hB q z] at h1; cases h1) h3, fun q o h1 => ?_, fun q o h1 h2 => ?_, fun i s hs => ?_, I.ap, I.hb, k.t I.tb⟩
  · obtain ⟨o', e⟩ := I.al q o h1
    exact k.a q o' e
  · obtain ⟨o', e⟩ := I.al q o h1
    exact k.n q o' e (I.n0 q o h1 h2)
  · obtain ⟨ov, h1, h2⟩ := I.sl i s hs
    refine ⟨ov, h1, ?_⟩
    cases s with
    | no => cases ov <;> trivial
    | val d =>
      cases ov with
      | none => exact h2
      | some v => exact Rep.ext k.f h2
    | lam g0 =>
      cases ov with
      | none => exact h2
      | some v => exact (let ⟨f1, z1, z2⟩ := h2; ⟨f1, z1, z2.move k.f fun q0 u0 e1 e2 => ⟨k.h q0 u0 e1 (fun z => hL q0 z u0 e1 e2) e2.nt, fun e3 => k.n q0 u0 e1 e3⟩⟩)
    | own xs =>
      cases ov with
      | none => exact h2
      | some v =>
        obtain ⟨q, e, a1, a2, vs, a3, a4⟩ := h2
        exact ⟨q, e, a1, k.n q _ a3 a2, vs, k.h q _ a3 (ap i _ q hs rfl (by rw [h1, e])) nt_lst, a4.ext k.f⟩
    | bor xs =>
      cases ov with
      | none => exact h2
      | some v =>
        obtain ⟨q, e, a1, a2, vs, a3, a4⟩ := h2
        exact ⟨q, e, a1, k.n q _ a3 a2, vs, k.h q _ a3 (ap i _ q hs rfl (by rw [h1, e])) nt_lst, a4.ext k.f⟩
    | slf z xs =>
      cases ov with
      | none => exact h2
      | some v =>
        obtain ⟨q, e, a1, a2, dx, fs, a3, a4, a5⟩ := h2
        exact ⟨q, e, a1, k.n q _ a3 a2, dx, fs, k.h q _ a3 (ap i _ q hs rfl (by rw [h1, e])) nt_ins, a4, a5.ext k.f⟩
    | dic b ks xs =>
      cases ov with
      | none => exact h2
      | some v =>
        obtain ⟨q, e, a1, a2, vs, a3, a4⟩ := h2
        obtain ⟨o, e3⟩ := DicAt.ob a3
        exact ⟨q, e, a1, k.n q _ e3 a2, vs, DicAt.keep k.f (fun o' z nt => k.h q _ z (ap i _ q hs rfl (by rw [h1, e])) nt) a3, a4.ext k.f⟩
theorem keep_lift {c : Ctx} {F H F' H' : Hp} {σ : L2.St} {ρ : Rho} (I : Ok c F H σ ρ) (k : Keep c.G.T [] F H F' H') : Ok c F' H' σ ρ := I.kept k (fun q h => absurd h (by simp)) (fun q h => absurd h (by simp)) fun j s q _ _ _ => by simp
theorem out_nil {G : Gx} {F H : Hp} {sl : List Sl} {out : List D} : Out G F H [] sl out := fun p h => absurd h (by simp)
theorem Ok.lent {c : Ctx} {F H F' H' : Hp} {σ : L2.St} {ρ : Rho} {i : Nat} {xs ys : List D} {p : Addr} {us : List V} (I : Ok c F H σ ρ) (hx : conM ρ i = some xs) (hσ : σ[i]? = some (some (V.ref p)))
    (k : Keep c.G.T [p] F H F' H') (hf : F' p = none) (hh : H' p = some (.lst us)) (r : Reps c.G F' us ys) : Ok c F' H' σ (setM ρ i ys) := by
  have hi : i < ρ.length := by
    unfold conM at hx
    cases e : ρ[i]? with
    | none => rw [e] at hx; cases hx
    | some s => exact (List.getElem?_eq_some_iff.mp e).1
  have hL : ∀ q ∈ [p], ∀ o, H q = some o → ¬ LamL o := fun q hq o e => by
    obtain ⟨p', us', g1, g2, _⟩ := I.own hx
    rw [hσ] at g1; cases g1
    rw [List.mem_singleton.mp hq, g2] at e
    cases e
    exact nl_lst
  have sm : ∃ s0 s1, ρ[i]? = some s0 ∧ s0.mut = true ∧ s1.mut = true ∧ setM ρ i ys = ρ.set i s1 ∧ (∀ ov, SlOk c F H ov s0 → SlOk c F' H' (some (V.ref p)) s1 ∨ ov ≠ some (V.ref p)) ∧ (p ∈ c.B ∨ c.H0 p = none) := by
    unfold conM at hx
    split at hx
    · rename_i zs hz
      obtain ⟨ov, h1, h2⟩ := I.sl i _ hz
      rw [hσ] at h1; cases h1
      obtain ⟨p', e, h0, _⟩ := h2
      cases e
      exact ⟨_, .own ys, hz, rfl, rfl, by unfold setM; rw [hz], fun ov h => .inl ⟨p, rfl, h0, hf, us, hh, r⟩, .inr h0⟩
    · rename_i zs hz
      obtain ⟨ov, h1, h2⟩ := I.sl i _ hz
      rw [hσ] at h1; cases h1
      obtain ⟨p', e, h0, _⟩ := h2
      cases e
      exact ⟨_, .bor ys, hz, rfl, rfl, by unfold setM; rw [hz], fun ov h => .inl ⟨p, rfl, h0, hf, us, hh, r⟩, .inl h0⟩
    · cases hx
  obtain ⟨s0, s1, g1, g2, g3, g4, g5, g6⟩ := sm
  rw [g4]
  refine ⟨by rw [List.length_set]; exact I.len, I.f0.trans k.f, k.fh, fun q o h1 h2 h3 => ?_, fun q o h1 => ?_, fun q o h1 h2 => ?_, fun j s hs => ?_, fun a b s t pa qb ha hb ms mt => ?_, I.hb, k.t I.tb⟩
  · refine k.h q o (I.fr q o h1 h2 h3) (fun z => ?_) h3
    have z : q = p := by simpa using z
    subst z
    rcases g6 with g6 | g6
    · exact h2 g6
    · rw [g6] at h1; cases h1
  · obtain ⟨o', e⟩ := I.al q o h1
    exact k.a q o' e
  · obtain ⟨o', e⟩ := I.al q o h1
    exact k.n q o' e (I.n0 q o h1 h2)
  · by_cases hj : i = j
    · subst hj
      rw [List.getElem?_set_self hi] at hs
      cases hs
      obtain ⟨ov, h1, h2⟩ := I.sl i _ g1
      rw [hσ] at h1; cases h1
      rcases g5 _ h2 with z | z
      · exact ⟨_, hσ, z⟩
      · exact absurd rfl z
    · rw [List.getElem?_set_ne hj] at hs
      obtain ⟨ov, h1, h2⟩ := I.sl j s hs
      refine ⟨ov, h1, ?_⟩
      have ne : ∀ q, s.mut = true → ov = some (V.ref q) → q ∉ [p] := fun q hm e z => by
        have z : q = p := by simpa using z
        exact hj (I.ap i j _ _ p q g1 hs g2 hm hσ (by rw [h1, e]) z.symm)
      cases s with
      | no => cases ov <;> trivial
      | val d =>
        cases ov with
        | none => exact h2
        | some v => exact Rep.ext k.f h2
      | lam g0 =>
        cases ov with
        | none => exact h2
        | some v => exact (let ⟨f1, z1, z2⟩ := h2; ⟨f1, z1, z2.move k.f fun q0 u0 e1 e2 => ⟨k.h q0 u0 e1 (fun z => hL q0 z u0 e1 e2) e2.nt, fun e3 => k.n q0 u0 e1 e3⟩⟩)
      | own zs =>
        cases ov with
        | none => exact h2
        | some v =>
          obtain ⟨q, e, a1, a2, ws, a3, a4⟩ := h2
          exact ⟨q, e, a1, k.n q _ a3 a2, ws, k.h q _ a3 (ne q rfl (by rw [e])) nt_lst, a4.ext k.f⟩
      | bor zs =>
        cases ov with
        | none => exact h2
        | some v =>
          obtain ⟨q, e, a1, a2, ws, a3, a4⟩ := h2
          exact ⟨q, e, a1, k.n q _ a3 a2, ws, k.h q _ a3 (ne q rfl (by rw [e])) nt_lst, a4.ext k.f⟩
      | slf z zs =>
        cases ov with
        | none => exact h2
        | some v =>
          obtain ⟨q, e, a1, a2, dx, fs, a3, a4, a5⟩ := h2
          exact ⟨q, e, a1, k.n q _ a3 a2, dx, fs, k.h q _ a3 (ne q rfl (by rw [e])) nt_ins, a4, a5.ext k.f⟩
      | dic bb ks zs =>
        cases ov with
        | none => exact h2
        | some v =>
          obtain ⟨q, e, a1, a2, ws, a3, a4⟩ := h2
          obtain ⟨o, e3⟩ := DicAt.ob a3
          exact ⟨q, e, a1, k.n q _ e3 a2, ws, DicAt.keep k.f (fun o' z nt => k.h q _ z (ne q rfl (by rw [e])) nt) a3, a4.ext k.f⟩
  · have mu : ∀ (j : Nat) s, (ρ.set i s1)[j]? = some s → s.mut = true → ∃ s', ρ[j]? = some s' ∧ s'.mut = true := fun j s hs hm => by
      by_cases hj : i = j
      · subst hj; exact ⟨s0, g1, g2⟩
      · rw [List.getElem?_set_ne hj] at hs; exact ⟨s, hs, hm⟩
    obtain ⟨s', hs', ms'⟩ := mu a s ha ms
    obtain ⟨t', ht', mt'⟩ := mu b t hb mt
    exact I.ap a b s' t' pa qb hs' ht' ms' mt'
section
variable {c : Ctx} {X : Cx} {x : Str} {p pos : Pos} {e : Expr} {es : List Expr} {k n : Nat} {m : Mir}
theorem call_w {sa : SA} (σ : L2.St) (H : Hp) (Q : VK) (h : vt c (sCall n m sa) σ H Q) : tCall (spV c.G n m) [] E0 (va c sa) σ H Q := by
  obtain ⟨F, ρ, I, d, ρ', e, q⟩ := h
  unfold sCall at e
  split at e
  · rename_i xs ρ1 e1
    split at e
    · rename_i hn
      split at e
      · rename_i d' out e2
        cases e
        refine ⟨F, ρ, I, xs, ρ', e1, fun vs H1 F1 x1 I1 r1 => ?_⟩
        show spV c.G n m (vs ++ []) H1 Q E0
        rw [List.append_nil]
        exact ⟨F1, [], _, I1.fh, I1.tb, ArgOk.vals r1, by rw [List.length_map]; exact hn, d, out, e2, fun v H2 F2 k2 _ r2 => q v H2 F2 (x1.trans k2.f) (keep_lift I1 k2) r2⟩
      · cases e
    · cases e
  · cases e
theorem ve_call {sa : SA} (C : Cal X.prog X.w c.G X.mg X.base x k n m) (hK : X.K = c.G.K) (hr : Room k X.A) (ha : PA X (e :: es) (va c sa)) (hg : Gl X x := by rfl) (hdb : (x == ("__debug__" : Str)) = false := by decide)
    (he : starEach (e :: es) X.env = (false, eval e X.env) :: starEach es X.env := by rfl) (hpl : (backTo pos (starEach es X.env)).any (·.1) = false := by rfl) : PE X (.Call (.Name x p) (e :: es) [] pos) (vt c (sCall n m sa)) := by
  obtain ⟨f, fd, ps, hm, hk, hb, hF⟩ := C.ex
  rw [← hK] at hk hb hF
  exact pe_of (pe_call hF hr hg hm hk hb .nil pass0 ha hdb he hpl) call_w
theorem callM_w {sa : SA} {i : Nat} (σ : L2.St) (H : Hp) (Q : VK) (h : vt c (sCallM n m i sa) σ H Q) : tCall (spV c.G n m) [] E0 (tCons (tVar i) (va c sa)) σ H Q := by
  obtain ⟨F, ρ, I, d, ρ', e, q⟩ := h
  unfold sCallM at e
  split at e
  · cases e
  · rename_i ys0 e0
    obtain ⟨p, us0, h0, _⟩ := I.own e0
    split at e
    · rename_i xs ρ1 e1
      split at e
      · rename_i hn
        split at e
        · rename_i ys e3
          split at e
          · rename_i d' out e2
            cases e
            refine ⟨_, h0, F, ρ, I, xs, ρ1, e1, fun vs H1 F1 x1 I1 r1 => ?_⟩
            show spV c.G n m ((V.ref p :: vs) ++ []) H1 Q E0
            rw [List.append_nil]
            obtain ⟨p', us, h1, h2, h3, h4⟩ := I1.own e3
            rw [h0] at h1; cases h1
            refine ⟨F1, [p], _, I1.fh, I1.tb, .bor h3 h2 h4 r1, by simpa using hn, d, out, e2, fun v H2 F2 k2 o2 r2 => ?_⟩
            obtain ⟨z1, us2, z2, z3⟩ := o2 p (by simp)
            exact q v H2 F2 (x1.trans k2.f) (I1.lent e3 h0 k2 z1 z2 z3) r2
          · cases e
        · cases e
      · cases e
    · cases e
theorem ve_callM {sa : SA} {i : Nat} (C : Cal X.prog X.w c.G X.mg X.base x k n m) (hK : X.K = c.G.K) (hr : Room k X.A) (h1 : PE X e (tVar i)) (ha : PA X es (va c sa)) (hg : Gl X x := by rfl) (hdb : (x == ("__debug__" : Str)) = false := by decide)
    (he : starEach (e :: es) X.env = (false, eval e X.env) :: starEach es X.env := by rfl) (hpl : (backTo pos (starEach es X.env)).any (·.1) = false := by rfl) : PE X (.Call (.Name x p) (e :: es) [] pos) (vt c (sCallM n m i sa)) := by
  obtain ⟨f, fd, ps, hm, hk, hb, hF⟩ := C.ex
  rw [← hK] at hk hb hF
  exact pe_of (pe_call hF hr hg hm hk hb .nil pass0 (pa_cons h1 ha he) hdb he hpl) callM_w
end
end VS

set_option Elab.async false
set_option linter.all false
set_option maxRecDepth 100000
set_option maxHeartbeats 4000000
namespace VS
open PySem PySem.Spec PyProof.Rows L2

inductive Fl where
  | nx | rt (d : D) | bk | ct | rm (xs : List D)
abbrev SS := Rho → Option (Fl × Rho)
def vEnd (c : Ctx) (E : Ends) (F : Hp) (fl : Fl) (ρ' : Rho) : Prop := match fl with
  | .nx => ∀ σ H F', Ext F F' → Ok c F' H σ ρ' → E.nx σ H
  | .rt d => ∀ v σ H F', Ext F F' → Ok c F' H σ ρ' → Rep c.G F' v d → E.rt v H
  | .bk => ∀ σ H F', Ext F F' → Ok c F' H σ ρ' → E.bk σ H
  | .ct => ∀ σ H F', Ext F F' → Ok c F' H σ ρ' → E.ct σ H
  | .rm xs => ∀ p us σ H F', Ext F F' → Ok c F' H σ ρ' → c.H0 p = none → F' p = none → H p = some (.lst us) → Reps c.G F' us xs → E.rt (.ref p) H
theorem vEnd.ext {c : Ctx} {E : Ends} {F F' : Hp} {fl : Fl} {ρ : Rho} (h : vEnd c E F fl ρ) (e : Ext F F') : vEnd c E F' fl ρ := by
  cases fl with
  | nx => exact fun σ H F1 x I => h σ H F1 (e.trans x) I
  | rt d => exact fun v σ H F1 x I r => h v σ H F1 (e.trans x) I r
  | bk => exact fun σ H F1 x I => h σ H F1 (e.trans x) I
  | ct => exact fun σ H F1 x I => h σ H F1 (e.trans x) I
  | rm xs => exact fun p us σ H F1 x I a b c' r => h p us σ H F1 (e.trans x) I a b c' r
def vs (c : Ctx) (s : SS) : TS := fun E σ H => ∃ F ρ, Ok c F H σ ρ ∧ ∃ fl ρ', s ρ = some (fl, ρ') ∧ vEnd c E F fl ρ'
def kN : SS := fun ρ => some (.nx, ρ)
def kS (a b : SS) : SS := fun ρ => match a ρ with
  | some (.nx, ρ1) => b ρ1
  | r => r
def kRet (e : SE) : SS := fun ρ => match e ρ with
  | some (d, ρ1) => some (.rt d, ρ1)
  | none => none
def kIf (t : SB) (a b : SS) : SS := fun ρ => match t ρ with
  | some (true, ρ1) => a ρ1
  | some (false, ρ1) => b ρ1
  | none => none
def kNever : SS := fun _ => none
def kSet (i : Nat) (e : SE) : SS := fun ρ => match e ρ with
  | some (d, ρ1) => some (.nx, ρ1.set i (.val d))
  | none => none
section
variable {c : Ctx} {X : Cx}
theorem vs_nil : PSs X [] (vs c kN) := pss_of pss_nil fun σ H E ⟨F, ρ, I, fl, ρ', e, q⟩ => by cases e; exact q σ H F Ext.rfl' I
theorem seq_w {a b : SS} (σ : L2.St) (H : Hp) (E : Ends) (h : vs c (kS a b) E σ H) : tSeq (vs c a) (vs c b) E σ H := by
  obtain ⟨F, ρ, I, fl, ρ', e, q⟩ := h
  unfold kS at e
  split at e
  · rename_i ρ1 e1
    exact ⟨F, ρ, I, .nx, ρ1, e1, fun σ1 H1 F1 x1 I1 => ⟨F1, ρ1, I1, fl, ρ', e, q.ext x1⟩⟩
  · rename_i e0
    refine ⟨F, ρ, I, fl, ρ', e, ?_⟩
    cases fl with
    | nx => exact absurd e (e0 _)
    | rt d => exact q
    | bk => exact q
    | ct => exact q
    | rm xs => exact q
theorem vs_cons {st : Stmt} {r : List Stmt} {a b : SS} (h1 : PS X st (vs c a)) (h2 : PSs X r (vs c b)) : PSs X (st :: r) (vs c (kS a b)) := pss_of (pss_cons h1 h2) seq_w
theorem vs_one {st : Stmt} {a : SS} (h1 : PS X st (vs c a)) : PSs X [st] (vs c a) := pss_one h1
theorem vs_ret {e : Expr} {s : SE} {pos} (h : PE X e (vt c s)) : PS X (.Return (some e) pos) (vs c (kRet s)) :=
  ps_of (ps_ret h) fun σ H E ⟨F, ρ, I, fl, ρ', e, q⟩ => by
    unfold kRet at e
    split at e
    · rename_i d ρ1 e1
      cases e
      exact ⟨F, ρ, I, d, ρ', e1, fun v H1 F1 x1 I1 r1 => q v σ H1 F1 x1 I1 r1⟩
    · cases e
theorem vs_if {t : Expr} {a b : List Stmt} {st : SB} {sa sb : SS} {pos} (ht : PT X t (vb c st)) (ha : PSs X a (vs c sa)) (hb : PSs X b (vs c sb)) : PS X (.If t a b pos) (vs c (kIf st sa sb)) :=
  ps_of (ps_if ht ha hb) fun σ H E ⟨F, ρ, I, fl, ρ', e, q⟩ => by
    unfold kIf at e
    split at e
    · rename_i ρ1 e1
      exact ⟨F, ρ, I, true, ρ1, e1, fun H1 F1 x1 I1 => iteT ⟨F1, ρ1, I1, fl, ρ', e, q.ext x1⟩⟩
    · rename_i ρ1 e1
      exact ⟨F, ρ, I, false, ρ1, e1, fun H1 F1 x1 I1 => iteF ⟨F1, ρ1, I1, fl, ρ', e, q.ext x1⟩⟩
    · cases e
theorem vs_never {st : Stmt} : PS X st (vs c kNever) := ps_of ps_never fun σ H E ⟨F, ρ, I, fl, ρ', e, q⟩ => by cases e
theorem Ok.put {F H : Hp} {σ : L2.St} {ρ : Rho} (I : Ok c F H σ ρ) (i : Nat) {v : V} {d : D} (r : Rep c.G F v d) : Ok c F H (σ.set i (some v)) (ρ.set i (.val d)) := by
  refine ⟨by rw [List.length_set, List.length_set]; exact I.len, I.f0, I.fh, I.fr, I.al, I.n0, fun j s hs => ?_, fun a b s t p q ha hb ms mt hp hq => ?_, I.hb, I.tb⟩
  · by_cases hj : i = j
    · subst hj
      have hi : i < ρ.length := by
        have := (List.getElem?_eq_some_iff.mp hs).1
        rwa [List.length_set] at this
      rw [List.getElem?_set_self hi] at hs
      cases hs
      exact ⟨some v, by rw [List.getElem?_set_self (by rw [I.len]; exact hi)], r⟩
    · rw [List.getElem?_set_ne hj] at hs
      obtain ⟨ov, h1, h2⟩ := I.sl j s hs
      exact ⟨ov, by rw [List.getElem?_set_ne hj]; exact h1, h2⟩
  · have no : ∀ (j : Nat) s, (ρ.set i (.val d))[j]? = some s → s.mut = true → i ≠ j := fun j s hs hm z => by
      subst z
      have hi : i < ρ.length := by
        have := (List.getElem?_eq_some_iff.mp hs).1
        rwa [List.length_set] at this
      rw [List.getElem?_set_self hi] at hs
      cases hs; cases hm
    have na := no a s ha ms
    have nb := no b t hb mt
    rw [List.getElem?_set_ne na] at ha hp
    rw [List.getElem?_set_ne nb] at hb hq
    exact I.ap a b s t p q ha hb ms mt hp hq
theorem set_w {i : Nat} {s : SE} (σ : L2.St) (H : Hp) (E : Ends) (h : vs c (kSet i s) E σ H) : tAsg (vt c s) (gName i) E σ H := by
  obtain ⟨F, ρ, I, fl, ρ', e, q⟩ := h
  unfold kSet at e
  split at e
  · rename_i d ρ1 e1
    cases e
    exact ⟨F, ρ, I, d, ρ1, e1, fun v H1 F1 x1 I1 r1 => q _ _ _ x1 (I1.put i r1)⟩
  · cases e
theorem vs_set {i : Nat} {x : Str} {e : Expr} {s : SE} {pos pos' : Pos} (hN : X.N.Nodup) (he : PE X e (vt c s)) (hi : X.N[i]? = some x := by rfl) (hx : Loc X.env.scope x := by first | exact Or.inl rfl | exact Or.inr rfl) (hs : swapsWith e (some (.Name x pos')) pos.line X.env = pure false := by rfl) (hf : X.fn x = true ∨ X.env.scope.names.lookup x = some .local := by first | exact .inl rfl | exact .inr rfl) :
    PS X (.Assign [.Name x pos'] e pos) (vs c (kSet i s)) := ps_of (ps_set hN hi hx he hs hf) set_w
end

def outOf (sl : List Sl) (ρ : Rho) : Option (List D) := match sl with
  | .bor _ :: _ => match ρ with
    | .bor xs :: _ => some xs
    | _ => none
  | .slf k _ :: _ => match ρ with
    | .slf k' xs :: _ => if k' = k then some xs else none
    | _ => none
  | _ => some []
def mir (n : Nat) (s : SS) : Mir := fun sl => match s (sl ++ List.replicate (n - sl.length) .no) with
  | some (.nx, ρ) => match outOf sl ρ with
    | some o => some (.non, o)
    | none => none
  | some (.rt d, ρ) => match outOf sl ρ with
    | some o => some (d, o)
    | none => none
  | _ => none
theorem mir_inv {n : Nat} {s : SS} {sl : List Sl} {d : D} {o : List D} (h : mir n s sl = some (d, o)) : ∃ fl ρ, s (sl ++ List.replicate (n - sl.length) .no) = some (fl, ρ) ∧ outOf sl ρ = some o ∧ (fl = .rt d ∨ (fl = .nx ∧ d = .non)) := by
  unfold mir at h
  split at h
  · split at h
    · cases h; exact ⟨_, _, by assumption, by assumption, .inr ⟨rfl, rfl⟩⟩
    · cases h
  · split at h
    · cases h; exact ⟨_, _, by assumption, by assumption, .inl rfl⟩
    · cases h
  · cases h
theorem ok_start {G : Gx} {F H : Hp} {B : List Addr} {us : List V} {sl : List Sl} (e : Ext F H) (tb : TbOk G.T F H) (a : ArgOk G F H B us sl) (k : Nat) :
    Ok ⟨G, F, H, B⟩ F H (us.map some ++ List.replicate k none) (sl ++ List.replicate k .no) := by
  have atv : ∀ {us : List V} {ds : List D}, Reps G F us ds → ∀ (i : Nat) s, (ds.map Sl.val)[i]? = some s → s.mut = false ∧ ∃ v, us[i]? = some v ∧ ∀ H0 B, SlOk ⟨G, F, H0, B⟩ F H (some v) s := by
    intro us ds r i s h
    rw [List.getElem?_map] at h
    cases e : ds[i]? with
    | none => rw [e] at h; cases h
    | some d =>
      rw [e] at h; cases h
      obtain ⟨v, h1, h2⟩ := r.get e
      exact ⟨rfl, v, h1, fun _ _ => h2⟩
  have hlen := a.length
  -- the given slots
  have main : (∀ (i : Nat) s, sl[i]? = some s → (s.mut = true → i = 0) ∧ ∃ v, us[i]? = some v ∧ SlOk ⟨G, F, H, B⟩ F H (some v) s) ∧ ∀ p ∈ B, ∃ o, H p = some o := by
    cases a with
    | vals r =>
      refine ⟨fun i s h => ?_, fun p h => absurd h (by simp)⟩
      obtain ⟨h1, v, h2, h3⟩ := atv r i s h
      exact ⟨fun z => (by rw [h1] at z; cases z), v, h2, h3 _ _⟩
    | bor hf hh r r' =>
      refine ⟨fun i s h => ?_, fun p h => ?_⟩
      · cases i with
        | zero => simp at h; subst h; exact ⟨fun _ => rfl, _, rfl, _, rfl, by simp, hf, _, hh, r⟩
        | succ i =>
          obtain ⟨h1, v, h2, h3⟩ := atv r' i s (by simpa using h)
          exact ⟨fun z => (by rw [h1] at z; cases z), v, by simpa using h2, h3 _ _⟩
      · rw [List.mem_singleton] at h
        subst h; exact ⟨_, hh⟩
    | slf hf hh r' =>
      refine ⟨fun i s h => ?_, fun p h => ?_⟩
      · cases i with
        | zero => simp at h; subst h; exact ⟨fun _ => rfl, _, rfl, _, rfl, by simp, hf, _, _, hh, ⟨0, rfl⟩, .nil⟩
        | succ i =>
          obtain ⟨h1, v, h2, h3⟩ := atv r' i s (by simpa using h)
          exact ⟨fun z => (by rw [h1] at z; cases z), v, by simpa using h2, h3 _ _⟩
      · rw [List.mem_singleton] at h
        subst h; exact ⟨_, hh⟩
    | lam r l =>
      refine ⟨fun i s h => ?_, fun p h => absurd h (by simp)⟩
      match i with
      | 0 => simp at h; subst h; exact ⟨fun _ => rfl, _, rfl, r⟩
      | 1 => simp at h; subst h; exact ⟨(fun z => nomatch z), _, rfl, _, rfl, l⟩
      | i + 2 => simp at h
  obtain ⟨main, hb⟩ := main
  have part : ∀ (i : Nat) s, (sl ++ List.replicate k Sl.no)[i]? = some s → (i < sl.length ∧ sl[i]? = some s) ∨ (s = .no ∧ (us.map some ++ List.replicate k none)[i]? = some none) := fun i s h => by
    by_cases hi : i < sl.length
    · rw [List.getElem?_append_left hi] at h; exact .inl ⟨hi, h⟩
    · rw [List.getElem?_append_right (by omega), List.getElem?_replicate] at h
      split at h
      · rename_i hk
        cases h
        refine .inr ⟨rfl, ?_⟩
        rw [List.getElem?_append_right (by rw [List.length_map]; omega), List.getElem?_replicate, if_pos (by rw [List.length_map]; omega)]
      · cases h
  refine ⟨by simp [hlen], Ext.rfl', e, fun p o h _ _ => h, fun p o h => ⟨o, h⟩, fun p o _ h => h, fun i s h => ?_, fun i j s t p q hi hj ms mt _ _ _ => ?_, hb, tb⟩
  · rcases part i s h with ⟨hi, h1⟩ | ⟨h1, h2⟩
    · obtain ⟨_, v, h2, h3⟩ := main i s h1
      exact ⟨some v, by rw [List.getElem?_append_left (by rw [List.length_map]; omega), List.getElem?_map, h2]; rfl, h3⟩
    · subst h1; exact ⟨none, h2, trivial⟩
  · have z : ∀ (i : Nat) s, (sl ++ List.replicate k Sl.no)[i]? = some s → s.mut = true → i = 0 := fun i s h m => by
      rcases part i s h with ⟨_, h1⟩ | ⟨h1, _⟩
      · exact (main i s h1).1 m
      · subst h1; cases m
    rw [z i s hi ms, z j t hj mt]
theorem ok_end {G : Gx} {F H F' H' : Hp} {B : List Addr} {us : List V} {sl : List Sl} {σ : L2.St} {ρ : Rho} {o : List D} (e : Ext F H) (a : ArgOk G F H B us sl) (I : Ok ⟨G, F, H, B⟩ F' H' σ ρ) (ho : outOf sl ρ = some o) : Keep G.T B F H F' H' ∧ Out G F' H' B sl o := by
  refine ⟨⟨I.f0, I.fh, I.fr, I.al, I.n0, fun _ => I.tb⟩, ?_⟩
  cases a with
  | vals r => exact out_nil
  | lam r l => exact out_nil
  | bor hf hh r r' =>
    intro p hp
    rw [List.mem_singleton] at hp
    subst hp
    unfold outOf at ho
    dsimp only at ho
    split at ho
    · rename_i xs ρ'
      cases ho
      obtain ⟨ov, h1, h2⟩ := I.sl 0 _ rfl
      cases ov with
      | none => exact h2.elim
      | some v =>
        obtain ⟨q, e1, h3, h4, us, h5, h6⟩ := h2
        have h3 := List.mem_singleton.mp h3
        subst h3
        exact ⟨h4, us, h5, h6⟩
    · cases ho
  | slf hf' hh r' =>
    intro p hp
    rw [List.mem_singleton] at hp
    subst hp
    unfold outOf at ho
    dsimp only at ho
    split at ho
    · rename_i k' xs ρ'
      split at ho
      · rename_i hk
        subst hk
        cases ho
        obtain ⟨ov, h1, h2⟩ := I.sl 0 _ rfl
        cases ov with
        | none => exact h2.elim
        | some v =>
          obtain ⟨q, e1, h3, h4, dx, fs, h5, ⟨n, h6⟩, h7⟩ := h2
          have h3 := List.mem_singleton.mp h3
          subst h3
          exact ⟨h4, dx, fs, h5, ⟨n, h6⟩, h7⟩
      · cases ho
    · cases ho
theorem fn_ok {P : Program} {w : World} {G : Gx} {mg : Str → Option Value} {base : Heap} {x qual : Str} {st : Stmt} {f : Addr} {fd : FuncData} {N ps : List Str} {k : Nat} {s : SS} (F : Fun G.K x qual st f fd) (S : FnScope N ps (defScope st))
    (hb : ∀ (c : Ctx) (cdv : Value) (A : Around) (outer : List Env) (sh : Shared) (H : Hp) (E : XK), c.G = G → Room k (A.deeper (envOfC qual (defScope st) sh.heap.objs.size f cdv)) →
      PSs (cxOf CX0 P w G.K mg base N qual (defScope st) f cdv A outer sh H E).nox (defBody st) (vs c s)) :
    FnOk P w G.K mg base CX0 (k + 1) f fd ps (spV G ps.length (mir N.length s)) := by
  refine F.ok S (fun us H Q E h => ?_) (fun cdv A outer sh H us Q E hr h => ?_)
  · obtain ⟨F0, B, sl, _, _, a, hn, _⟩ := h
    rw [a.length, hn]
  · obtain ⟨F0, B, sl, e, tb, a, hn, d, o, hm, q⟩ := h
    refine ⟨vs ⟨G, F0, H, B⟩ s, hb _ cdv A outer sh H E rfl hr, ?_⟩
    obtain ⟨fl, ρ, h1, h2, h3⟩ := mir_inv hm
    have hl := a.length
    refine ⟨F0, _, (by have := ok_start e tb a (N.length - sl.length); unfold L2.start; rw [hl]; exact this), fl, ρ, h1, ?_⟩
    · have fin : ∀ σ H' F', Ok ⟨G, F0, H, B⟩ F' H' σ ρ → Keep G.T B F0 H F' H' ∧ Out G F' H' B sl o := fun σ H' F' I => ok_end e a I h2
      rcases h3 with rfl | ⟨rfl, rfl⟩
      · exact fun v σ H' F' x I r => q v H' F' (fin σ H' F' I).1 (fin σ H' F' I).2 r
      · exact fun σ H' F' x I => q .non H' F' (fin σ H' F' I).1 (fin σ H' F' I).2 .non
end VS

set_option Elab.async false
set_option linter.all false
set_option maxRecDepth 100000
set_option maxHeartbeats 4000000
namespace VS
open PySem PySem.Spec PyProof.Rows L2

abbrev SI := Rho → Option (List D × Rho)
def Yields (G : Gx) (J : It) (F0 : Hp) (ds : List D) : Prop := ∀ F H, Ext F0 F → Ext F H →
  (∀ (i : Nat) d, ds[i]? = some d → J.go i H ∧ ∀ x H', J.yld i H x H' → ∃ F', Grow F H F' H' ∧ Rep G F' x d) ∧ J.stop ds.length H
def vi (c : Ctx) (s : SI) : TI := fun σ H R => ∃ F ρ, Ok c F H σ ρ ∧ ∃ ds ρ', s ρ = some (ds, ρ') ∧ ∀ J H' F', Ext F F' → Ok c F' H' σ ρ' → Yields c.G J F' ds → R J H'
theorem pi_of {X : Cx} {tg e : Expr} {t t' : TI} (h : PI X tg e t) (w : ∀ σ H R, t' σ H R → t σ H R) : PI X tg e t' := ⟨fun pins s σ H R I q => h.run pins s σ H R I (w σ H R q)⟩
def iSeq (a : SE) : SI := fun ρ => match a ρ with
  | some (.lst xs, ρ') => some (xs, ρ')
  | _ => none
def iTupl (a : SE) : SI := fun ρ => match a ρ with
  | some (.tup xs, ρ') => some (xs, ρ')
  | _ => none
def rng (a : Int) (n : Nat) : List D := (List.range n).map fun i => .int (a + (i : Nat))
def small62 (j : Int) : Prop := -(2 ^ 62) ≤ j ∧ j < 2 ^ 62
instance (j : Int) : Decidable (small62 j) := inferInstanceAs (Decidable (_ ∧ _))
def iR (a : SA) : SI := fun ρ => match a ρ with
  | some ([.int j], ρ') => if small62 j then some (rng 0 j.toNat, ρ') else none
  | _ => none
section
variable {c : Ctx} {X : Cx} {tg : Expr}
theorem yields_list {K : PySem.W.Frag} {F0 : Hp} {a : Addr} {us : List V} {ds : List D} (h : F0 a = some (.lst us)) (r : Reps c.G F0 us ds) : Yields c.G (Itl K a) F0 ds := by
  intro F H e1 e2
  have hH : SqL K H a us := .of (e2 _ _ (e1 _ _ h))
  refine ⟨fun i d hd => ?_, us, hH, Nat.le_of_eq r.length⟩
  obtain ⟨v, h1, h2⟩ := r.get hd
  refine ⟨⟨us, v, hH, h1⟩, fun x H' y => ?_⟩
  obtain ⟨y1, y2⟩ := y
  subst y1
  have := y2 us hH
  rw [h1] at this; cases this
  exact ⟨F, .refl e2, h2.ext e1⟩
theorem yields_tup {K : PySem.W.Frag} {F0 : Hp} {a : Addr} {us : List V} {ds : List D} (h : F0 a = some (.tup us)) (r : Reps c.G F0 us ds) : Yields c.G (Itt K a) F0 ds := by
  intro F H e1 e2
  have hH : SqT K H a us := .of (e2 _ _ (e1 _ _ h))
  refine ⟨fun i d hd => ?_, us, hH, Nat.le_of_eq r.length⟩
  obtain ⟨v, h1, h2⟩ := r.get hd
  refine ⟨⟨us, v, hH, h1⟩, fun x H' y => ?_⟩
  obtain ⟨y1, y2⟩ := y
  subst y1
  have := y2 us hH
  rw [h1] at this; cases this
  exact ⟨F, .refl e2, h2.ext e1⟩
theorem vi_list {e : Expr} {a : SE} (h : PE X e (vt c a)) : PI X tg e (vi c (iSeq a)) := pi_of (pi_list h) fun σ H R ⟨F, ρ, I, ds, ρ', e, q⟩ => by
  unfold iSeq at e
  split at e
  · rename_i xs ρ1 e1
    cases e
    refine ⟨F, ρ, I, _, ρ', e1, fun v H1 F1 x1 I1 r1 => ?_⟩
    cases r1 with
    | lst h1 rs => exact ⟨_, rfl, ⟨_, .of (I1.fh _ _ h1)⟩, q _ _ F1 x1 I1 (yields_list h1 rs)⟩
  · cases e
theorem vi_tup {e : Expr} {a : SE} (h : PE X e (vt c a)) : PI X tg e (vi c (iTupl a)) := pi_of (pi_tup h) fun σ H R ⟨F, ρ, I, ds, ρ', e, q⟩ => by
  unfold iTupl at e
  split at e
  · rename_i xs ρ1 e1
    cases e
    refine ⟨F, ρ, I, _, ρ', e1, fun v H1 F1 x1 I1 r1 => ?_⟩
    cases r1 with
    | tup h1 rs => exact ⟨_, rfl, ⟨_, .of (I1.fh _ _ h1)⟩, q _ _ F1 x1 I1 (yields_tup h1 rs)⟩
  · cases e
theorem rng_get {a : Int} {n i : Nat} {d : D} (h : (rng a n)[i]? = some d) : i < n ∧ d = .int (a + (i : Nat)) := by
  unfold rng at h
  rw [List.getElem?_map] at h
  cases e : (List.range n)[i]? with
  | none => rw [e] at h; cases h
  | some j =>
    rw [e] at h; cases h
    obtain ⟨h1, h2⟩ := List.getElem?_eq_some_iff.mp e
    rw [List.getElem_range] at h2
    subst h2
    exact ⟨by simpa using h1, rfl⟩
theorem yields_rng {F0 : Hp} (a : Int) (n : Nat) : Yields c.G (Itr a n) F0 (rng a n) := by
  intro F H e1 e2
  refine ⟨fun i d hd => ?_, by show n ≤ _; simp [rng]⟩
  obtain ⟨h1, h2⟩ := rng_get hd
  subst h2
  refine ⟨h1, fun x H' y => ?_⟩
  obtain ⟨y1, y2⟩ := y
  subst y1 y2
  exact ⟨F, .refl e2, .int _⟩
theorem reps1 {F : Hp} {vs : List V} {d : D} (r : Reps c.G F vs [d]) : ∃ v, vs = [v] ∧ Rep c.G F v d := by
  cases r with
  | cons h r => cases r; exact ⟨_, rfl, h⟩
theorem reps2 {F : Hp} {vs : List V} {d d' : D} (r : Reps c.G F vs [d, d']) : ∃ v v', vs = [v, v'] ∧ Rep c.G F v d ∧ Rep c.G F v' d' := by
  cases r with
  | cons h r =>
    obtain ⟨v', e, h'⟩ := reps1 r
    subst e
    exact ⟨_, _, rfl, h, h'⟩
theorem reps3 {F : Hp} {vs : List V} {d d' d2 : D} (r : Reps c.G F vs [d, d', d2]) : ∃ v v' v2, vs = [v, v', v2] ∧ Rep c.G F v d ∧ Rep c.G F v' d' ∧ Rep c.G F v2 d2 := by
  cases r with
  | cons h r =>
    obtain ⟨v', v2, e, h', h2⟩ := reps2 r
    subst e
    exact ⟨_, _, _, rfl, h, h', h2⟩
theorem vi_range1 {a : Expr} {sa : SA} {p pos : Pos} (hm : X.mg "range" = none) (ha : PA X [a] (va c sa)) (hg : Gl X "range" := by rfl) (hs : starEach [a] X.env = [(false, eval a X.env)] := by rfl) : PI X tg (.Call (.Name "range" p) [a] [] pos) (vi c (iR sa)) :=
  pi_of (pi_range1 hg hm ha hs) fun σ H R ⟨F, ρ, I, ds, ρ', e, q⟩ => by
    unfold iR at e
    split at e
    · rename_i j ρ1 e1
      split at e
      · rename_i hj
        cases e
        refine ⟨F, ρ, I, _, ρ', e1, fun vs H1 F1 x1 I1 r1 => ?_⟩
        obtain ⟨v, ev, r⟩ := reps1 r1
        cases r
        exact ⟨_, ev, hj.1, hj.2, q _ _ F1 x1 I1 (yields_rng 0 _)⟩
      · cases e
    · cases e
end

end VS

set_option Elab.async false
set_option linter.all false
set_option maxRecDepth 100000
set_option maxHeartbeats 4000000
namespace VS
open PySem PySem.Spec PyProof.Rows L2

section
variable {c : Ctx} {X : Cx}
def gsN : List Nat → TGs
  | [] => gNil
  | i :: r => gCons (gName i) (gsN r)
inductive Tg where
  | nm (i : Nat) | tp (is : List Nat) | np (i : Nat) (is : List Nat)
def gT (K : PySem.W.Frag) : Tg → TG
  | .nm i => gName i
  | .tp is => L2.gTup K is.length (gsN is)
  | .np i is => L2.gTup K 2 (gCons (gName i) (gCons (L2.gTup K is.length (gsN is)) gNil))
def sets : List Nat → List D → Rho → Option Rho
  | [], [], ρ => some ρ
  | i :: r, d :: ds, ρ => sets r ds (ρ.set i (.val d))
  | _, _, _ => none
def tgt : Tg → D → Rho → Option Rho
  | .nm i, d, ρ => some (ρ.set i (.val d))
  | .tp is, .tup ds, ρ => sets is ds ρ
  | .np i is, .tup [d, .tup ds], ρ => sets is ds (ρ.set i (.val d))
  | _, _, _ => none
def Tg.ix : Tg → List Nat
  | .nm i => [i]
  | .tp is => is
  | .np i is => i :: is
theorem wipe_set {σ : L2.St} {i : Nat} {x : Option V} : ∀ {vs : List Nat}, i ∈ vs → wipe (σ.set i x) vs = wipe σ vs := by
  have at' : ∀ (vs : List Nat) (σ : L2.St) (j : Nat), (wipe σ vs)[j]? = if j ∈ vs then (if j < σ.length then some none else none) else σ[j]? := by
    intro vs
    induction vs with
    | nil => intro σ j; simp [wipe]
    | cons v vs ih =>
      intro σ j
      unfold wipe
      by_cases hv : v = j
      · subst hv
        by_cases hl : v < σ.length
        · rw [List.getElem?_set_self (by rw [wipe_length]; exact hl)]; simp [hl]
        · rw [List.getElem?_eq_none (by rw [List.length_set, wipe_length]; omega)]; simp [hl]
      · rw [List.getElem?_set_ne hv, ih σ j]
        have : (j ∈ v :: vs) ↔ j ∈ vs := by simp [Ne.symm hv]
        simp only [this]
  intro vs hi
  apply List.ext_getElem?
  intro j
  rw [at', at']
  by_cases hj : j ∈ vs
  · simp [hj]
  · have : i ≠ j := fun z => hj (z ▸ hi)
    simp [hj, List.getElem?_set_ne this]
theorem sets_w {F H : Hp} : ∀ {is : List Nat} {ds : List D} {ρ ρ' : Rho} {us : List V} {σ : L2.St} {Q : L2.St → Hp → Prop} (_ : Ok c F H σ ρ) (_ : Reps c.G F us ds) (_ : sets is ds ρ = some ρ')
    (_ : ∀ σ', Ok c F H σ' ρ' → (∀ vs : List Nat, (∀ i ∈ is, i ∈ vs) → wipe σ' vs = wipe σ vs) → Q σ' H), gsN is us σ H Q
  | [], [], ρ, ρ', us, σ, Q, I, r, h, q => by
    cases r
    unfold sets at h
    cases h
    exact ⟨rfl, q σ I fun _ _ => rfl⟩
  | i :: is, d :: ds, ρ, ρ', us, σ, Q, I, r, h, q => by
    cases r with
    | cons r1 r2 =>
      unfold sets at h
      refine ⟨_, _, rfl, sets_w (I.put i r1) r2 h fun σ' I' w => q σ' I' fun vs hv => ?_⟩
      rw [w vs fun j hj => hv j (List.mem_cons_of_mem _ hj)]
      exact wipe_set (hv i List.mem_cons_self)
  | [], _ :: _, _, _, _, _, _, _, _, h, _ => by unfold sets at h; cases h
  | _ :: _, [], _, _, _, _, _, _, _, h, _ => by unfold sets at h; cases h
theorem sets_len : ∀ {is : List Nat} {ds : List D} {ρ ρ' : Rho}, sets is ds ρ = some ρ' → ds.length = is.length
  | [], [], _, _, _ => rfl
  | _ :: is, _ :: ds, _, _, h => by unfold sets at h; simp [sets_len h]
  | [], _ :: _, _, _, h => by unfold sets at h; cases h
  | _ :: _, [], _, _, h => by unfold sets at h; cases h
theorem tgt_w {K : PySem.W.Frag} {F H : Hp} {t : Tg} {d : D} {ρ ρ' : Rho} {v : V} {σ : L2.St} {Q : L2.St → Hp → Prop} (I : Ok c F H σ ρ) (r : Rep c.G F v d) (h : tgt t d ρ = some ρ')
    (q : ∀ σ', Ok c F H σ' ρ' → (∀ vs : List Nat, (∀ i ∈ t.ix, i ∈ vs) → wipe σ' vs = wipe σ vs) → Q σ' H) : gT K t v σ H Q := by
  cases t with
  | nm i =>
    unfold tgt at h
    cases h
    exact q _ (I.put i r) fun vs hv => wipe_set (hv i List.mem_cons_self)
  | tp is =>
    cases d with
    | tup ds =>
      have h : sets is ds ρ = some ρ' := h
      cases r with
      | tup h1 rs => exact ⟨_, _, rfl, .of (I.fh _ _ h1), by rw [rs.length]; exact sets_len h, sets_w I rs h q⟩
    | _ => simp [tgt] at h
  | np i is =>
    unfold tgt at h
    split at h
    · rename_i e; cases e
    · rename_i e; cases e
    · rename_i e
      cases e
      cases r with
      | tup h1 rs =>
        cases rs with
        | cons r1 r2 =>
          cases r2 with
          | cons r2 r3 =>
            cases r3
            cases r2 with
            | tup h2 rs2 =>
              refine ⟨_, _, rfl, .of (I.fh _ _ h1), rfl, _, _, rfl, _, _, rfl, ⟨_, _, rfl, .of (I.fh _ _ h2), by rw [rs2.length]; exact sets_len h, sets_w (I.put i r1) rs2 h fun σ' I' w => ⟨rfl, q σ' I' fun vs hv => ?_⟩⟩⟩
              rw [w vs fun j hj => hv j (List.mem_cons_of_mem _ hj)]
              exact wipe_set (hv i List.mem_cons_self)
    · cases h

end
end VS

set_option Elab.async false
set_option linter.all false
set_option maxRecDepth 100000
set_option maxHeartbeats 4000000
namespace VS
open PySem PySem.Spec PyProof.Rows L2

def toB : Sl → Sl
  | .own xs => .bor xs
  | .slf _ _ => .no
  | .dic _ _ _ => .no
  | s => s
def wipeR (ρ : Rho) : List Nat → Rho
  | [] => ρ
  | v :: vs => (wipeR ρ vs).set v .no
def blkR (ix : List Nat) (ρ : Rho) : Rho := wipeR (ρ.map toB) ix
def restore : Rho → Rho → Option Rho
  | [], [] => some []
  | .own _ :: r, .bor ys :: r' => (restore r r').map (.own ys :: ·)
  | .bor _ :: r, .bor ys :: r' => (restore r r').map (.bor ys :: ·)
  | .own _ :: _, _ => none
  | .bor _ :: _, _ => none
  | s :: r, _ :: r' => (restore r r').map (s :: ·)
  | _, _ => none
def okT (ix : List Nat) (ρ : Rho) : Bool := ix.all fun i => match ρ[i]? with
  | some (.own _) => false
  | some (.bor _) => false
  | _ => true
def turnC (t : Tg) (tt : SB) (e : SE) (d : D) (ρ : Rho) : Option (Option D × Rho) := if okT t.ix ρ = true then match tgt t d (blkR t.ix ρ) with
  | some ρ1 => match tt ρ1 with
    | some (true, ρ2) => match e ρ2 with
      | some (x, ρ3) => (restore ρ ρ3).map fun r => (some x, r)
      | none => none
    | some (false, ρ2) => (restore ρ ρ2).map fun r => (none, r)
    | none => none
  | none => none
  else none
theorem okT_no {ix : List Nat} {ρ : Rho} (h : okT ix ρ = true) {i : Nat} {xs : List D} (hx : ρ[i]? = some (.own xs) ∨ ρ[i]? = some (.bor xs)) : i ∉ ix := fun hi => by
  have z := List.all_eq_true.mp h i hi
  rcases hx with hx | hx <;> (rw [hx] at z; cases z)
def cLoop (t : Tg) (tt : SB) (e : SE) : List D → Rho → Option (List D × Rho)
  | [], ρ => some ([], ρ)
  | d :: r, ρ => match turnC t tt e d ρ with
    | some (some x, ρ1) => match cLoop t tt e r ρ1 with
      | some (xs, ρ2) => some (x :: xs, ρ2)
      | none => none
    | some (none, ρ1) => cLoop t tt e r ρ1
    | none => none
def sComp (it : SI) (t : Tg) (tt : SB) (e : SE) : SE := fun ρ => match it ρ with
  | some (ds, ρ1) => match cLoop t tt e ds ρ1 with
    | some (out, ρ2) => if out.length ≤ LN then some (.lst out, ρ2) else none
    | none => none
  | none => none
def bYes : SB := fun ρ => some (true, ρ)

theorem wipeR_length (ρ : Rho) : ∀ vs, (wipeR ρ vs).length = ρ.length
  | [] => rfl
  | v :: vs => by unfold wipeR; rw [List.length_set, wipeR_length ρ vs]
theorem wipeR_get (ρ : Rho) : ∀ (vs : List Nat) (j : Nat), (wipeR ρ vs)[j]? = if j ∈ vs then (if j < ρ.length then some .no else none) else ρ[j]?
  | [], j => by simp [wipeR]
  | v :: vs, j => by
    unfold wipeR
    by_cases hv : v = j
    · subst hv
      by_cases hl : v < ρ.length
      · rw [List.getElem?_set_self (by rw [wipeR_length]; exact hl)]; simp [hl]
      · rw [List.getElem?_eq_none (by rw [List.length_set, wipeR_length]; omega)]; simp [hl]
    · rw [List.getElem?_set_ne hv, wipeR_get ρ vs j]
      have : (j ∈ v :: vs) ↔ j ∈ vs := by simp [Ne.symm hv]
      simp only [this]
theorem wipe_get (σ : L2.St) : ∀ (vs : List Nat) (j : Nat), (wipe σ vs)[j]? = if j ∈ vs then (if j < σ.length then some none else none) else σ[j]?
  | [], j => by simp [wipe]
  | v :: vs, j => by
    unfold wipe
    by_cases hv : v = j
    · subst hv
      by_cases hl : v < σ.length
      · rw [List.getElem?_set_self (by rw [wipe_length]; exact hl)]; simp [hl]
      · rw [List.getElem?_eq_none (by rw [List.length_set, wipe_length]; omega)]; simp [hl]
    · rw [List.getElem?_set_ne hv, wipe_get σ vs j]
      have : (j ∈ v :: vs) ↔ j ∈ vs := by simp [Ne.symm hv]
      simp only [this]
theorem blkR_get {ix : List Nat} {ρ : Rho} {j : Nat} {s : Sl} (h : (blkR ix ρ)[j]? = some s) : (s = .no ∧ j < ρ.length) ∨ (j ∉ ix ∧ ∃ s0, ρ[j]? = some s0 ∧ s = toB s0) := by
  unfold blkR at h
  rw [wipeR_get] at h
  by_cases hj : j ∈ ix
  · rw [if_pos hj] at h
    split at h
    · rename_i hl
      cases h
      rw [List.length_map] at hl
      exact .inl ⟨rfl, hl⟩
    · cases h
  · rw [if_neg hj, List.getElem?_map] at h
    cases e : ρ[j]? with
    | none => rw [e] at h; cases h
    | some s0 => rw [e] at h; cases h; exact .inr ⟨hj, s0, rfl, rfl⟩
def mutA (σ : L2.St) (ρ : Rho) : List Addr := (List.range ρ.length).filterMap fun i => match ρ[i]?, σ[i]? with
  | some (.own _), some (some (V.ref p)) => some p
  | some (.bor _), some (some (V.ref p)) => some p
  | _, _ => none
theorem mem_mutA {σ : L2.St} {ρ : Rho} {p : Addr} : p ∈ mutA σ ρ ↔ ∃ (i : Nat) (xs : List D), (ρ[i]? = some (.own xs) ∨ ρ[i]? = some (.bor xs)) ∧ σ[i]? = some (some (V.ref p)) := by
  unfold mutA
  rw [List.mem_filterMap]
  constructor
  · rintro ⟨i, hi, h⟩
    split at h
    · rename_i xs q h1 h2; cases h; exact ⟨i, xs, .inl h1, h2⟩
    · rename_i xs q h1 h2; cases h; exact ⟨i, xs, .inr h1, h2⟩
    · cases h
  · rintro ⟨i, xs, h1, h2⟩
    have hi : i < ρ.length := by rcases h1 with h1 | h1 <;> exact (List.getElem?_eq_some_iff.mp h1).1
    refine ⟨i, List.mem_range.mpr hi, ?_⟩
    rcases h1 with h1 | h1 <;> rw [h1, h2]
section
variable {c : Ctx} {X : Cx}
theorem Ok.enter {F H : Hp} {σ : L2.St} {ρ : Rho} (I : Ok c F H σ ρ) (ix : List Nat) : Ok ⟨c.G, F, H, mutA σ ρ⟩ F H (wipe σ ix) (blkR ix ρ) where
  len := by unfold blkR; rw [wipe_length, wipeR_length, List.length_map]; exact I.len
  f0 := Ext.rfl'
  fh := I.fh
  fr := fun p o h _ _ => h
  al := fun p o h => ⟨o, h⟩
  n0 := fun p o _ h => h
  sl := fun j s hs => by
    rcases blkR_get hs with ⟨h1, h2⟩ | ⟨h1, s0, h2, h3⟩
    · subst h1
      have hj : j < (wipe σ ix).length := by rw [wipe_length, I.len]; exact h2
      exact ⟨_, List.getElem?_eq_getElem hj, by cases (wipe σ ix)[j] <;> trivial⟩
    · obtain ⟨ov, g1, g2⟩ := I.sl j s0 h2
      refine ⟨ov, by rw [wipe_get, if_neg h1]; exact g1, ?_⟩
      subst h3
      cases s0 with
      | no => cases ov <;> trivial
      | val d =>
        cases ov with
        | none => exact g2
        | some v => exact g2
      | lam g0 =>
        cases ov with
        | none => exact g2
        | some v => exact g2
      | slf k fs => cases ov <;> trivial
      | dic b k fs => cases ov <;> trivial
      | own xs =>
        cases ov with
        | none => exact g2
        | some v =>
          obtain ⟨p, e, a1, a2, vs, a3, a4⟩ := g2
          exact ⟨p, e, mem_mutA.mpr ⟨j, xs, .inl h2, by rw [g1, e]⟩, a2, vs, a3, a4⟩
      | bor xs =>
        cases ov with
        | none => exact g2
        | some v =>
          obtain ⟨p, e, a1, a2, vs, a3, a4⟩ := g2
          exact ⟨p, e, mem_mutA.mpr ⟨j, xs, .inr h2, by rw [g1, e]⟩, a2, vs, a3, a4⟩
  ap := fun i j s t p q hi hj ms mt hp hq e => by
    rcases blkR_get hi with ⟨h1, _⟩ | ⟨h1, s0, h2, h3⟩
    · subst h1; cases ms
    · rcases blkR_get hj with ⟨h1', _⟩ | ⟨h1', t0, h2', h3'⟩
      · subst h1'; cases mt
      · rw [wipe_get, if_neg h1] at hp
        rw [wipe_get, if_neg h1'] at hq
        subst h3 h3'
        refine I.ap i j s0 t0 p q h2 h2' ?_ ?_ hp hq e
        · cases s0 <;> first | rfl | cases ms
        · cases t0 <;> first | rfl | cases mt
  hb := fun p hp => by
    obtain ⟨i, xs, h1, h2⟩ := mem_mutA.mp hp
    have : conM ρ i = some xs := by unfold conM; rcases h1 with h1 | h1 <;> rw [h1]
    obtain ⟨p', vs, g1, g2, _⟩ := I.own this
    rw [h2] at g1; cases g1
    exact ⟨_, g2⟩
  tb := I.tb
theorem restore_get : ∀ {ρ ρ' r : Rho} {i : Nat} {s : Sl}, restore ρ ρ' = some r → r[i]? = some s →
    ∃ s0, ρ[i]? = some s0 ∧ ((s = s0 ∧ (∀ xs, s0 ≠ .own xs ∧ s0 ≠ .bor xs)) ∨ ∃ xs ys, ρ'[i]? = some (.bor ys) ∧ ((s0 = .own xs ∧ s = .own ys) ∨ (s0 = .bor xs ∧ s = .bor ys)))
  | [], [], r, i, s, h, hs => by unfold restore at h; cases h; simp at hs
  | [], _ :: _, _, _, _, h, _ => by simp [restore] at h
  | s0 :: ρ, [], _, _, _, h, _ => by cases s0 <;> simp [restore] at h
  | s0 :: ρ, s1 :: ρ', r, i, s, h, hs => by
    have go : ∀ (x : Sl), (restore ρ ρ').map (x :: ·) = some r → ((x = s0 ∧ (∀ xs, s0 ≠ .own xs ∧ s0 ≠ .bor xs)) ∨ ∃ xs ys, s1 = .bor ys ∧ ((s0 = .own xs ∧ x = .own ys) ∨ (s0 = .bor xs ∧ x = .bor ys))) →
        ∃ s2, (s0 :: ρ)[i]? = some s2 ∧ ((s = s2 ∧ (∀ xs, s2 ≠ .own xs ∧ s2 ≠ .bor xs)) ∨ ∃ xs ys, (s1 :: ρ')[i]? = some (.bor ys) ∧ ((s2 = .own xs ∧ s = .own ys) ∨ (s2 = .bor xs ∧ s = .bor ys))) := fun x hx hq => by
      cases e : restore ρ ρ' with
      | none => rw [e] at hx; cases hx
      | some r0 =>
        rw [e] at hx; cases hx
        cases i with
        | zero =>
          simp at hs; subst hs
          refine ⟨s0, rfl, ?_⟩
          rcases hq with hq | ⟨xs, ys, h1, h2⟩
          · exact .inl hq
          · exact .inr ⟨xs, ys, by subst h1; rfl, h2⟩
        | succ i => simpa using restore_get e (by simpa using hs)
    cases s0 with
    | own xs =>
      cases s1 with
      | bor ys => exact go (.own ys) (by simpa [restore] using h) (.inr ⟨xs, ys, rfl, .inl ⟨rfl, rfl⟩⟩)
      | _ => simp [restore] at h
    | bor xs =>
      cases s1 with
      | bor ys => exact go (.bor ys) (by simpa [restore] using h) (.inr ⟨xs, ys, rfl, .inr ⟨rfl, rfl⟩⟩)
      | _ => simp [restore] at h
    | no => exact go .no (by cases s1 <;> simpa [restore] using h) (.inl ⟨rfl, fun xs => ⟨nofun, nofun⟩⟩)
    | val d => exact go (.val d) (by cases s1 <;> simpa [restore] using h) (.inl ⟨rfl, fun xs => ⟨nofun, nofun⟩⟩)
    | lam g0 => exact go (.lam g0) (by cases s1 <;> simpa [restore] using h) (.inl ⟨rfl, fun xs => ⟨nofun, nofun⟩⟩)
    | slf k fs => exact go (.slf k fs) (by cases s1 <;> simpa [restore] using h) (.inl ⟨rfl, fun xs => ⟨nofun, nofun⟩⟩)
    | dic b k fs => exact go (.dic b k fs) (by cases s1 <;> simpa [restore] using h) (.inl ⟨rfl, fun xs => ⟨nofun, nofun⟩⟩)
theorem restore_len : ∀ {ρ ρ' r : Rho}, restore ρ ρ' = some r → r.length = ρ.length
  | [], [], r, h => by unfold restore at h; cases h; rfl
  | [], _ :: _, _, h => by simp [restore] at h
  | s0 :: ρ, [], _, h => by cases s0 <;> simp [restore] at h
  | s0 :: ρ, s1 :: ρ', r, h => by
    have go : ∀ (x : Sl), (restore ρ ρ').map (x :: ·) = some r → r.length = (s0 :: ρ).length := fun x hx => by
      cases e : restore ρ ρ' with
      | none => rw [e] at hx; cases hx
      | some r0 => rw [e] at hx; cases hx; simp [restore_len e]
    cases s0 with
    | own xs =>
      cases s1 with
      | bor ys => exact go (.own ys) (by simpa [restore] using h)
      | _ => simp [restore] at h
    | bor xs =>
      cases s1 with
      | bor ys => exact go (.bor ys) (by simpa [restore] using h)
      | _ => simp [restore] at h
    | no => exact go .no (by cases s1 <;> simpa [restore] using h)
    | val d => exact go (.val d) (by cases s1 <;> simpa [restore] using h)
    | lam g0 => exact go (.lam g0) (by cases s1 <;> simpa [restore] using h)
    | slf k fs => exact go (.slf k fs) (by cases s1 <;> simpa [restore] using h)
    | dic b k fs => exact go (.dic b k fs) (by cases s1 <;> simpa [restore] using h)
theorem Ok.leave {F H F' H' : Hp} {σ σ' : L2.St} {ρ ρ' r : Rho} {ix : List Nat} (I : Ok c F H σ ρ) (J : Ok ⟨c.G, F, H, mutA σ ρ⟩ F' H' σ' ρ') (hw : wipe σ' ix = wipe σ ix) (hr : restore ρ ρ' = some r)
    (hix : ∀ (i : Nat) (xs ys : List D), (ρ[i]? = some (.own xs) ∨ ρ[i]? = some (.bor xs)) → ρ'[i]? = some (.bor ys) → i ∉ ix) : Ok c F' H' σ r := by
  have notB : ∀ p o, c.H0 p = some o → p ∉ c.B → p ∉ mutA σ ρ := fun p o h1 h2 h3 => by
    obtain ⟨i, xs, g1, g2⟩ := mem_mutA.mp h3
    rcases g1 with g1 | g1
    · obtain ⟨ov, k1, k2⟩ := I.sl i _ g1
      rw [g2] at k1; cases k1
      obtain ⟨q, e, a1, _⟩ := k2
      cases e
      rw [h1] at a1; cases a1
    · obtain ⟨ov, k1, k2⟩ := I.sl i _ g1
      rw [g2] at k1; cases k1
      obtain ⟨q, e, a1, _⟩ := k2
      cases e
      exact h2 a1
  have notL : ∀ (j : Nat) (xs : List D) (q : Addr), (ρ[j]? = some (.own xs) ∨ ρ[j]? = some (.bor xs)) → σ[j]? = some (some (V.ref q)) → ∀ o, H q = some o → ¬ LamL o := fun j xs q k1 k2 o e => by
    have : conM ρ j = some xs := by unfold conM; rcases k1 with k1 | k1 <;> rw [k1]
    obtain ⟨p', us', g1, g2, _⟩ := I.own this
    rw [k2] at g1; cases g1
    rw [g2] at e
    cases e
    exact nl_lst
  refine ⟨by rw [restore_len hr]; exact I.len, I.f0.trans J.f0, J.fh, fun p o h1 h2 h3 => J.fr p o (I.fr p o h1 h2 h3) (notB p o h1 h2) h3, fun p o h1 => ?_, fun p o h1 h2 => ?_, fun i s hs => ?_, fun i j s t p q hi hj ms mt hp hq e => ?_, I.hb, J.tb⟩
  · obtain ⟨o', e⟩ := I.al p o h1
    exact J.al p o' e
  · obtain ⟨o', e⟩ := I.al p o h1
    exact J.n0 p o' e (I.n0 p o h1 h2)
  · obtain ⟨s0, h1, h2⟩ := restore_get hr hs
    obtain ⟨ov, g1, g2⟩ := I.sl i s0 h1
    refine ⟨ov, g1, ?_⟩
    have bor : ∀ xs ys, (ρ[i]? = some (.own xs) ∨ ρ[i]? = some (.bor xs)) → ρ'[i]? = some (.bor ys) → ∀ p, ov = some (V.ref p) → F' p = none ∧ ∃ vs, H' p = some (.lst vs) ∧ Reps c.G F' vs ys := fun xs ys hx hy p hp => by
      have hni := hix i xs ys hx hy
      obtain ⟨ov', k1, k2⟩ := J.sl i _ hy
      have e1 : σ'[i]? = σ[i]? := by
        have := congrArg (fun l => l[i]?) hw
        simp only [wipe_get, if_neg hni] at this
        exact this
      rw [e1, g1, hp] at k1
      cases k1
      obtain ⟨q, e, _, a2, vs, a3, a4⟩ := k2
      cases e
      exact ⟨a2, vs, a3, a4⟩
    rcases h2 with ⟨h2, h3⟩ | ⟨xs, ys, h2, ⟨h3, h4⟩ | ⟨h3, h4⟩⟩
    · subst h2
      cases s with
      | no => cases ov <;> trivial
      | val d =>
        cases ov with
        | none => exact g2
        | some v => exact Rep.ext J.f0 g2
      | lam g0 =>
        cases ov with
        | none => exact g2
        | some v => exact (let ⟨f1, z1, z2⟩ := g2; ⟨f1, z1, z2.move J.f0 fun q0 u0 e1 e2 => ⟨J.fr q0 u0 e1 (fun hm => by obtain ⟨j, xs, k1, k2⟩ := mem_mutA.mp hm; exact notL j xs q0 k1 k2 u0 e1 e2) e2.nt, fun e3 => J.n0 q0 u0 e1 e3⟩⟩)
      | own xs => exact absurd rfl (h3 xs).1
      | bor xs => exact absurd rfl (h3 xs).2
      | slf k fs =>
        cases ov with
        | none => exact g2
        | some v =>
          obtain ⟨p, e, a1, a2, dx, us, a3, a4, a5⟩ := g2
          have np : p ∉ mutA σ ρ := fun hm => by
            obtain ⟨j, xs, k1, k2⟩ := mem_mutA.mp hm
            have z : i = j := by
              rcases k1 with k1 | k1
              · exact I.ap i j _ _ p p h1 k1 rfl rfl (by rw [g1, e]) k2 rfl
              · exact I.ap i j _ _ p p h1 k1 rfl rfl (by rw [g1, e]) k2 rfl
            subst z
            rcases k1 with k1 | k1 <;> (rw [h1] at k1; cases k1)
          exact ⟨p, e, a1, J.n0 p _ a3 a2, dx, us, J.fr p _ a3 np nt_ins, a4, a5.ext J.f0⟩
      | dic b k fs =>
        cases ov with
        | none => exact g2
        | some v =>
          obtain ⟨p, e, a1, a2, us, a3, a5⟩ := g2
          have np : p ∉ mutA σ ρ := fun hm => by
            obtain ⟨j, xs, k1, k2⟩ := mem_mutA.mp hm
            have z : i = j := by
              rcases k1 with k1 | k1
              · exact I.ap i j _ _ p p h1 k1 rfl rfl (by rw [g1, e]) k2 rfl
              · exact I.ap i j _ _ p p h1 k1 rfl rfl (by rw [g1, e]) k2 rfl
            subst z
            rcases k1 with k1 | k1 <;> (rw [h1] at k1; cases k1)
          obtain ⟨o, a4⟩ := DicAt.ob a3
          exact ⟨p, e, a1, J.n0 p _ a4 a2, us, DicAt.keep J.f0 (fun o' z nt => J.fr p o' z np nt) a3, a5.ext J.f0⟩
    · subst h3 h4
      cases ov with
      | none => exact g2
      | some v =>
        obtain ⟨p, e, a1, _⟩ := g2
        obtain ⟨b1, b2⟩ := bor xs ys (.inl h1) h2 p (by rw [e])
        exact ⟨p, e, a1, b1, b2⟩
    · subst h3 h4
      cases ov with
      | none => exact g2
      | some v =>
        obtain ⟨p, e, a1, _⟩ := g2
        obtain ⟨b1, b2⟩ := bor xs ys (.inr h1) h2 p (by rw [e])
        exact ⟨p, e, a1, b1, b2⟩
  · have mu : ∀ (i : Nat) (s : Sl), r[i]? = some s → s.mut = true → ∃ s0, ρ[i]? = some s0 ∧ s0.mut = true := fun i s hs hm => by
      obtain ⟨s0, h1, h2⟩ := restore_get hr hs
      refine ⟨s0, h1, ?_⟩
      rcases h2 with ⟨h2, _⟩ | ⟨xs, ys, _, ⟨h3, _⟩ | ⟨h3, _⟩⟩
      · subst h2; exact hm
      · subst h3; rfl
      · subst h3; rfl
    obtain ⟨s0, k1, k2⟩ := mu i s hi ms
    obtain ⟨t0, k3, k4⟩ := mu j t hj mt
    exact I.ap i j s0 t0 p q k1 k3 k2 k4 hp hq e
theorem Ok.other {F H : Hp} {σ : L2.St} {ρ : Rho} {p : Addr} {us : List V} (I : Ok c F H σ ρ) (hp : H p = some (.lst us)) (hF : F p = none) (h0 : c.H0 p = none) (ap : p ∉ mutA σ ρ) (o : HO) : Ok c F (upd H p o) σ ρ := by
  have nF : ∀ q u, F q = some u → q ≠ p := fun q u e z => by subst z; rw [hF] at e; cases e
  have n0 : ∀ q u, c.H0 q = some u → q ≠ p := fun q u e z => by subst z; rw [h0] at e; cases e
  refine ⟨I.len, I.f0, fun q u e => by rw [upd_ne (nF q u e)]; exact I.fh q u e, fun q u e1 e2 e3 => by rw [upd_ne (n0 q u e1)]; exact I.fr q u e1 e2 e3, fun q u e => by rw [upd_ne (n0 q u e)]; exact I.al q u e, I.n0, fun i s hs => ?_, I.ap, I.hb, ⟨tabs_upd I.tb.t hp nt_lst nc_lst, I.tb.n⟩⟩
  obtain ⟨ov, h1, h2⟩ := I.sl i s hs
  refine ⟨ov, h1, ?_⟩
  cases s with
  | no => cases ov <;> trivial
  | val d => cases ov <;> exact h2
  | lam g0 =>
    cases ov with
    | none => exact h2
    | some v => exact let ⟨f1, z1, z2⟩ := h2; ⟨f1, z1, z2.move Ext.rfl' fun q0 u0 e1 e2 => ⟨by rw [upd_ne (fun z => by subst z; rw [hp] at e1; cases e1; exact nl_lst e2)]; exact e1, id⟩⟩
  | own xs =>
    cases ov with
    | none => exact h2
    | some v =>
      obtain ⟨q, e, a1, a2, vs, a3, a4⟩ := h2
      have : q ≠ p := fun z => ap (mem_mutA.mpr ⟨i, xs, .inl hs, by rw [h1, e, z]⟩)
      exact ⟨q, e, a1, a2, vs, by rw [upd_ne this]; exact a3, a4⟩
  | bor xs =>
    cases ov with
    | none => exact h2
    | some v =>
      obtain ⟨q, e, a1, a2, vs, a3, a4⟩ := h2
      have : q ≠ p := fun z => ap (mem_mutA.mpr ⟨i, xs, .inr hs, by rw [h1, e, z]⟩)
      exact ⟨q, e, a1, a2, vs, by rw [upd_ne this]; exact a3, a4⟩
  | slf k fs =>
    cases ov with
    | none => exact h2
    | some v =>
      obtain ⟨q, e, a1, a2, dx, vs, a3, a4, a5⟩ := h2
      have : q ≠ p := fun z => by subst z; rw [hp] at a3; cases a3
      exact ⟨q, e, a1, a2, dx, vs, by rw [upd_ne this]; exact a3, a4, a5⟩
  | dic b k fs =>
    cases ov with
    | none => exact h2
    | some v =>
      obtain ⟨q, e, a1, a2, vs, a3, a5⟩ := h2
      have : q ≠ p := fun z => by
        subst z
        cases b with
        | true => obtain ⟨xs, d⟩ := a3; have := d.at_; rw [hp] at this; unfold rawO at this; cases this
        | false => obtain ⟨kvs, d, _⟩ := a3; rw [hp] at d; cases d
      exact ⟨q, e, a1, a2, vs, DicAt.ext Ext.rfl' (fun o' z => by rw [upd_ne this]; exact z) a3, a5⟩
theorem Ok.seal {F H : Hp} {σ : L2.St} {ρ : Rho} {p : Addr} {us : List V} (I : Ok c F H σ ρ) (hp : H p = some (.lst us)) (hF : F p = none) (h0 : c.H0 p = none) (ap : p ∉ mutA σ ρ) : Ok c (upd F p (.lst us)) H σ ρ := by
  have ex : Ext F (upd F p (.lst us)) := Ext.upd hF
  refine ⟨I.len, I.f0.trans ex, fun q u e => ?_, I.fr, I.al, fun q u e1 e2 => ?_, fun i s hs => ?_, I.ap, I.hb, I.tb.seal hp nt_lst⟩
  · by_cases z : q = p
    · subst z; rw [upd_same] at e; cases e; exact hp
    · rw [upd_ne z] at e; exact I.fh q u e
  · have z : q ≠ p := fun z => by subst z; rw [h0] at e1; cases e1
    rw [upd_ne z]; exact I.n0 q u e1 e2
  obtain ⟨ov, h1, h2⟩ := I.sl i s hs
  refine ⟨ov, h1, ?_⟩
  cases s with
  | no => cases ov <;> trivial
  | val d =>
    cases ov with
    | none => exact h2
    | some v => exact Rep.ext ex h2
  | lam g0 =>
    cases ov with
    | none => exact h2
    | some v => exact (let ⟨f1, z1, z2⟩ := h2; ⟨f1, z1, z2.move ex fun q0 u0 e1 e2 => ⟨e1, fun e3 => by rw [upd_ne (fun z => by subst z; rw [hp] at e1; cases e1; exact nl_lst e2)]; exact e3⟩⟩)
  | own xs =>
    cases ov with
    | none => exact h2
    | some v =>
      obtain ⟨q, e, a1, a2, vs, a3, a4⟩ := h2
      have : q ≠ p := fun z => ap (mem_mutA.mpr ⟨i, xs, .inl hs, by rw [h1, e, z]⟩)
      exact ⟨q, e, a1, by rw [upd_ne this]; exact a2, vs, a3, a4.ext ex⟩
  | bor xs =>
    cases ov with
    | none => exact h2
    | some v =>
      obtain ⟨q, e, a1, a2, vs, a3, a4⟩ := h2
      have : q ≠ p := fun z => ap (mem_mutA.mpr ⟨i, xs, .inr hs, by rw [h1, e, z]⟩)
      exact ⟨q, e, a1, by rw [upd_ne this]; exact a2, vs, a3, a4.ext ex⟩
  | slf k fs =>
    cases ov with
    | none => exact h2
    | some v =>
      obtain ⟨q, e, a1, a2, dx, vs, a3, a4, a5⟩ := h2
      have : q ≠ p := fun z => by subst z; rw [hp] at a3; cases a3
      exact ⟨q, e, a1, by rw [upd_ne this]; exact a2, dx, vs, a3, a4, a5.ext ex⟩
  | dic b k fs =>
    cases ov with
    | none => exact h2
    | some v =>
      obtain ⟨q, e, a1, a2, vs, a3, a5⟩ := h2
      have : q ≠ p := fun z => by
        subst z
        cases b with
        | true => obtain ⟨xs, d⟩ := a3; have := d.at_; rw [hp] at this; unfold rawO at this; cases this
        | false => obtain ⟨kvs, d, _⟩ := a3; rw [hp] at d; cases d
      exact ⟨q, e, a1, by rw [upd_ne this]; exact a2, vs, DicAt.ext ex (fun _ z => z) a3, a5.ext ex⟩
end
end VS

set_option Elab.async false
set_option linter.all false
set_option maxRecDepth 100000
set_option maxHeartbeats 4000000
namespace VS
open PySem PySem.Spec PyProof.Rows L2

def vtX (G : Gx) (s : SE) : TE := fun σ H Q => ∃ F0 H0 B, vt ⟨G, F0, H0, B⟩ s σ H Q
def vbX (G : Gx) (s : SB) : TT := fun σ H Q => ∃ F0 H0 B, vb ⟨G, F0, H0, B⟩ s σ H Q
theorem pe_X {X : Cx} {G : Gx} {e : Expr} {s : SE} (h : ∀ F0 H0 B, PE X e (vt ⟨G, F0, H0, B⟩ s)) : PE X e (vtX G s) :=
  ⟨fun pins sh σ H Q I ⟨F0, H0, B, q⟩ => (h F0 H0 B).run pins sh σ H Q I q⟩
theorem pts_X {X : Cx} {G : Gx} {e : List Expr} {s : SB} (h : ∀ F0 H0 B, PTs X e (vb ⟨G, F0, H0, B⟩ s)) : PTs X e (vbX G s) :=
  ⟨fun pins sh σ H Q I ⟨F0, H0, B, q⟩ => (h F0 H0 B).run pins sh σ H Q I q⟩
theorem vts_nil {X : Cx} {c : Ctx} : PTs X [] (vb c bYes) := ⟨fun pins sh σ H Q I ⟨F, ρ, I', b, ρ', e, q⟩ => by
  cases e
  exact pts_nil.run pins sh σ H Q I (q H F Ext.rfl' I')⟩
theorem vts_one {X : Cx} {c : Ctx} {e : Expr} {s : SB} (h : PT X e (vb c s)) : PTs X [e] (vb c s) := pts_one h
theorem comp_w {c : Ctx} {K : PySem.W.Frag} {it : SI} {t : Tg} {tt : SB} {e : SE} (σ : L2.St) (H : Hp) (Q : VK) (h : vt c (sComp it t tt e) σ H Q) : tLc (vi c it) (gT K t) (vbX c.G tt) (vtX c.G e) t.ix σ H Q := by
  obtain ⟨F, ρ, I, d, ρ', hs, q⟩ := h
  unfold sComp at hs
  split at hs
  · rename_i ds ρ1 e1
    split at hs
    · rename_i out ρ2 e2
      split at hs
      · rename_i hlen
        cases hs
        refine ⟨F, ρ, I, ds, ρ1, e1, fun J H1 F1 x1 I1 y D hD => ?_⟩
        have I1' := I1.grow (Grow.raw (o := .lst []) I1.fh hD)
        have hDF : F1 D = none := ext_none I1.fh hD
        have hD0 : c.H0 D = none := by
          cases z : c.H0 D with
          | none => rfl
          | some o => obtain ⟨o', z'⟩ := I1.al D o z; rw [hD] at z'; cases z'
        have apart : ∀ p, p ∈ mutA σ ρ1 → p ≠ D := fun p hp z => by
          obtain ⟨i, xs, k1, k2⟩ := mem_mutA.mp hp
          have : conM ρ1 i = some xs := by unfold conM; rcases k1 with k1 | k1 <;> rw [k1]
          obtain ⟨p', vs, g1, g2, _⟩ := I1.own this
          rw [k2] at g1; cases g1
          rw [z, hD] at g2; cases g2
        refine ⟨fun i m H => m = ds.length - i ∧ i ≤ ds.length ∧ ∃ F2 ρ2' acc av rest, Ok c F2 H σ ρ2' ∧ Ext F1 F2 ∧ H D = some (.lst av) ∧ F2 D = none ∧ Reps c.G F2 av acc ∧ cLoop t tt e (ds.drop i) ρ2' = some (rest, ρ') ∧ acc ++ rest = out ∧ (∀ p, p ∈ mutA σ ρ2' → p ≠ D),
          ⟨ds.length, by simp, Nat.zero_le _, F1, ρ1, [], [], out, I1', Ext.rfl', upd_same, hDF, .nil, e2, rfl, apart⟩, ?_⟩
        rintro i m H2 ⟨rfl, hi, F2, ρ3, acc, av, rest, I2, x2, hD2, hF2, r2, l2, ho, ap2⟩
        obtain ⟨y1, y2⟩ := y F2 H2 x2 I2.fh
        by_cases hlt : i < ds.length
        · rw [List.drop_eq_getElem_cons hlt] at l2
          obtain ⟨g1, g2⟩ := y1 i ds[i] (by simp [hlt])
          refine .inr ⟨g1, fun H => i + 1 ≤ ds.length ∧ ∃ F2 ρ2' acc av rest, Ok c F2 H σ ρ2' ∧ Ext F1 F2 ∧ H D = some (.lst av) ∧ F2 D = none ∧ Reps c.G F2 av acc ∧ cLoop t tt e (ds.drop (i + 1)) ρ2' = some (rest, ρ') ∧ acc ++ rest = out ∧ (∀ p, p ∈ mutA σ ρ2' → p ≠ D), fun H' ⟨h1, h2⟩ => ⟨ds.length - (i + 1), by omega, rfl, h1, h2⟩, fun x H' yy => ?_⟩
          obtain ⟨F3, g3, r3⟩ := g2 x H' yy
          have I3 := I2.grow g3
          have J3 := I3.enter t.ix
          have hD3 : H' D = some (.lst av) := g3.h _ _ hD2
          have hF3 : F3 D = none := g3.n _ _ hD2 hF2
          have nD : D ∉ mutA σ ρ3 := fun z => ap2 D z rfl
          -- the turn's own semantics
          unfold cLoop at l2
          have turn : okT t.ix ρ3 = true ∧ ∃ ρ4 b ρ5, tgt t ds[i] (blkR t.ix ρ3) = some ρ4 ∧ tt ρ4 = some (b, ρ5) ∧ ((b = true ∧ ∃ x ρ6 r xs, e ρ5 = some (x, ρ6) ∧ restore ρ3 ρ6 = some r ∧ cLoop t tt e (ds.drop (i + 1)) r = some (xs, ρ') ∧ rest = x :: xs) ∨
              (b = false ∧ ∃ r, restore ρ3 ρ5 = some r ∧ cLoop t tt e (ds.drop (i + 1)) r = some (rest, ρ'))) := by
            unfold turnC at l2
            by_cases k0 : okT t.ix ρ3 = true
            case neg => rw [if_neg k0] at l2; cases l2
            rw [if_pos k0] at l2
            refine ⟨k0, ?_⟩
            cases k1 : tgt t ds[i] (blkR t.ix ρ3) with
            | none => rw [k1] at l2; cases l2
            | some ρ4 =>
              rw [k1] at l2
              dsimp only at l2
              cases k2 : tt ρ4 with
              | none => rw [k2] at l2; cases l2
              | some p2 =>
                obtain ⟨b, ρ5⟩ := p2
                rw [k2] at l2
                refine ⟨ρ4, b, ρ5, rfl, k2, ?_⟩
                cases b with
                | true =>
                  dsimp only at l2
                  cases k3 : e ρ5 with
                  | none => rw [k3] at l2; cases l2
                  | some p3 =>
                    obtain ⟨x, ρ6⟩ := p3
                    rw [k3] at l2
                    dsimp only at l2
                    cases k4 : restore ρ3 ρ6 with
                    | none => rw [k4] at l2; cases l2
                    | some r =>
                      rw [k4] at l2
                      dsimp only [Option.map] at l2
                      cases k5 : cLoop t tt e (ds.drop (i + 1)) r with
                      | none => rw [k5] at l2; cases l2
                      | some p5 =>
                        obtain ⟨xs, ρ7⟩ := p5
                        rw [k5] at l2
                        cases l2
                        exact .inl ⟨rfl, x, ρ6, r, xs, rfl, k4, k5, rfl⟩
                | false =>
                  dsimp only at l2
                  cases k4 : restore ρ3 ρ5 with
                  | none => rw [k4] at l2; cases l2
                  | some r =>
                    rw [k4] at l2
                    exact .inr ⟨rfl, r, rfl, l2⟩
          obtain ⟨k0, ρ4, b, ρ5, k1, k2, k3⟩ := turn
          refine tgt_w J3 r3 k1 fun σ4 J4 w4 => ?_
          have hw : wipe σ4 t.ix = wipe σ t.ix := by
            rw [w4 t.ix fun _ z => z]
            apply List.ext_getElem?
            intro j
            rw [wipe_get, wipe_get, wipe_length]
            by_cases hj : j ∈ t.ix
            · simp [hj]
            · simp [hj]
          refine ⟨?_, F3, H', mutA σ ρ3, F3, ρ4, J4, b, ρ5, k2, fun H5 F5 x5 J5 => ?_⟩
          · exact hw
          -- where a slot of the block is one of ours it is none of the targets
          have nix : ∀ {ρz : Rho} {Fz Hz : Hp}, Ok ⟨c.G, F3, H', mutA σ ρ3⟩ Fz Hz σ4 ρz → ∀ (j : Nat) (xs ys : List VS.D), (ρ3[j]? = some (.own xs) ∨ ρ3[j]? = some (.bor xs)) → ρz[j]? = some (.bor ys) → j ∉ t.ix :=
            fun _ j xs ys hx _ => okT_no k0 hx
          have fin : ∀ {ρz r : Rho} {Fz Hz : Hp}, Ok ⟨c.G, F3, H', mutA σ ρ3⟩ Fz Hz σ4 ρz → restore ρ3 ρz = some r → Ok c Fz Hz σ r ∧ Hz D = some (.lst av) ∧ Fz D = none ∧ Ext F3 Fz ∧ (∀ p, p ∈ mutA σ r → p ≠ D) := fun {ρz r Fz Hz} Jz hr => by
            refine ⟨I3.leave Jz hw hr (nix Jz), Jz.fr _ _ hD3 nD nt_lst, Jz.n0 _ _ hD3 hF3, Jz.f0, fun p hp => ?_⟩
            obtain ⟨j, xs, m1, m2⟩ := mem_mutA.mp hp
            refine ap2 p (mem_mutA.mpr ?_)
            rcases m1 with m1 | m1
            · obtain ⟨s0, z1, z2⟩ := restore_get hr m1
              rcases z2 with ⟨z2, z3⟩ | ⟨zs, ys, _, ⟨z3, _⟩ | ⟨_, z4⟩⟩
              · exact absurd z2.symm (z3 _).1
              · exact ⟨j, zs, .inl (by rw [z1, z3]), m2⟩
              · cases z4
            · obtain ⟨s0, z1, z2⟩ := restore_get hr m1
              rcases z2 with ⟨z2, z3⟩ | ⟨zs, ys, _, ⟨_, z4⟩ | ⟨z3, _⟩⟩
              · exact absurd z2.symm (z3 _).2
              · cases z4
              · exact ⟨j, zs, .inr (by rw [z1, z3]), m2⟩
          rcases k3 with ⟨rfl, x, ρ6, r, xs, j1, j2, j3, j4⟩ | ⟨rfl, r, j2, j3⟩
          · refine iteT ⟨F3, H', mutA σ ρ3, F5, ρ5, J5, x, ρ6, j1, fun v H6 F6 x6 J6 r6 => ?_⟩
            obtain ⟨I6, hD6, hF6, x36, ap6⟩ := fin J6 j2
            have ra : Reps c.G F6 av acc := (r2.ext g3.f).ext x36
            have hz : av.length < sizeLine := by
              rw [ra.length]
              have : acc.length < out.length := by rw [← ho, j4]; simp
              have := ln_fit hlen
              omega
            refine ⟨av, hD6, hz, hlt, F6, r, acc ++ [x], av ++ [v], xs, ?_, (x2.trans g3.f).trans x36, upd_same, hF6, ra.append (.one r6), j3, by rw [← ho, j4]; simp, ap6⟩
            exact I6.other hD6 hF6 hD0 (fun z => ap6 _ z rfl) _
          · refine iteF ?_
            obtain ⟨I5, hD5, hF5, x35, ap5⟩ := fin J5 j2
            exact ⟨hlt, F5, r, acc, av, rest, I5, (x2.trans g3.f).trans x35, hD5, hF5, (r2.ext g3.f).ext x35, j3, ho, ap5⟩
        · have hi' : i = ds.length := by omega
          subst hi'
          rw [List.drop_length] at l2
          unfold cLoop at l2
          cases l2
          rw [List.append_nil] at ho
          subst ho
          refine .inl ⟨y2, ?_⟩
          exact q _ H2 _ ((x1.trans x2).trans (Ext.upd hF2)) (I2.seal hD2 hF2 hD0 fun z => ap2 _ z rfl) (.lst upd_same (r2.ext (Ext.upd hF2)))
      · cases hs
    · cases hs
  · cases hs
section
variable {c : Ctx} {X : Cx}
theorem ve_lc {elt tg iter : Expr} {ifs : List Expr} {scope : Scope} {own : List (Str × Nat)} {pos : Pos} {it : SI} {tt : SB} {e : SE} (t : Tg) (hc : X.calm = true) (hN : X.N.Nodup) (hi : PI X tg iter (vi c it)) (ok : BlkOk X.N X.env.scope scope own) (hix : own.map (·.2) = t.ix)
    (hg : ∀ (s : Shared) (H : Hp) (C : Addr) (cl : List (Str × Addr)) (fp : List Addr), PG (X.blk s H scope (compEnvC scope cl C X.env) fp) tg (gT X.K t))
    (ht : ∀ (s : Shared) (H : Hp) (C : Addr) (cl : List (Str × Addr)) (fp : List Addr) (F0 H0 : Hp) (B : List Addr), PTs (X.blk s H scope (compEnvC scope cl C X.env) fp) ifs (vb ⟨c.G, F0, H0, B⟩ tt))
    (he : ∀ (s : Shared) (H : Hp) (C : Addr) (cl : List (Str × Addr)) (fp : List Addr) (F0 H0 : Hp) (B : List Addr), PE (X.blk s H scope (compEnvC scope cl C X.env) fp) elt (vt ⟨c.G, F0, H0, B⟩ e))
    (hs : ∀ x, foldedSetIterable iter X.env x = pure x := by intro _; rfl) : PE X (.ListComp elt [⟨tg, iter, ifs, 0⟩] scope pos) (vt c (sComp it t tt e)) :=
  pe_of (pe_lc hc hN hi ok hg (fun s H C cl fp => pts_X (ht s H C cl fp)) (fun s H C cl fp => pe_X (he s H C cl fp)) hs) fun σ H Q q => by
    rw [hix]
    exact comp_w σ H Q q
theorem vs_setLc {i : Nat} {y : Str} {py : Pos} {elt tg iter : Expr} {ifs : List Expr} {scope : Scope} {own : List (Str × Nat)} {pos spos : Pos} {it : SI} {tt : SB} {e : SE} (t : Tg) (hc : X.calm = true) (hN : X.N.Nodup)
    (hi : PI X tg iter (vi c it)) (ok : BlkOk X.N X.env.scope scope own) (hix : own.map (·.2) = t.ix)
    (hg : ∀ (s : Shared) (H : Hp) (C : Addr) (cl : List (Str × Addr)) (fp : List Addr), PG (X.blk s H scope (compEnvC scope cl C X.env) fp) tg (gT X.K t))
    (ht : ∀ (s : Shared) (H : Hp) (C : Addr) (cl : List (Str × Addr)) (fp : List Addr) (F0 H0 : Hp) (B : List Addr), PTs (X.blk s H scope (compEnvC scope cl C X.env) fp) ifs (vb ⟨c.G, F0, H0, B⟩ tt))
    (he : ∀ (s : Shared) (H : Hp) (C : Addr) (cl : List (Str × Addr)) (fp : List Addr) (F0 H0 : Hp) (B : List Addr), PE (X.blk s H scope (compEnvC scope cl C X.env) fp) elt (vt ⟨c.G, F0, H0, B⟩ e))
    (hsw : swapsWith (.ListComp elt [⟨tg, iter, ifs, 0⟩] scope pos) (some (.Name y py)) spos.line X.env = pure true)
    (hy : X.N[i]? = some y := by rfl) (hyl : X.env.scope.names.lookup y = some .local := by rfl)
    (hs : ∀ x, foldedSetIterable iter X.env x = pure x := by intro _; rfl) : PS X (.Assign [.Name y py] (.ListComp elt [⟨tg, iter, ifs, 0⟩] scope pos) spos) (vs c (kSet i (sComp it t tt e))) :=
  ps_of (ps_setLc hc hN hy hyl hsw hi ok hg (fun s H C cl fp => pts_X (ht s H C cl fp)) (fun s H C cl fp => pe_X (he s H C cl fp)) hs) fun σ H E q => by
    obtain ⟨F, ρ, I, fl, ρ', e1, q⟩ := q
    unfold kSet at e1
    split at e1
    · rename_i d ρ1 e2
      cases e1
      rw [hix]
      exact comp_w σ H _ ⟨F, ρ, I, d, ρ1, e2, fun v H1 F1 x1 I1 r1 => q _ _ _ x1 (I1.put i r1)⟩
    · cases e1
end
end VS

set_option Elab.async false
set_option linter.all false
set_option maxRecDepth 100000
set_option maxHeartbeats 4000000
namespace VS
open PySem PySem.Spec PyProof.Rows L2

def kOwn (i : Nat) (a : SA) : SS := fun ρ => match a ρ with
  | some (xs, ρ1) => if xs.length ≤ LN then some (.nx, ρ1.set i (.own xs)) else none
  | none => none
def kApp (i : Nat) (e : SE) : SS := fun ρ => match conM ρ i with
  | none => none
  | some _ => match e ρ with
    | some (d, ρ1) => match conM ρ1 i with
      | some xs => if xs.length < LN then some (.nx, setM ρ1 i (xs ++ [d])) else none
      | none => none
    | none => none
def kPut (i : Nat) (k e : SE) : SS := fun ρ => match e ρ with
  | some (d, ρ1) => match conM ρ1 i with
    | none => none
    | some _ => match k ρ1 with
      | some (.int j, ρ2) => match conM ρ2 i with
        | some xs => match ixN xs.length j with
          | some n => some (.nx, setM ρ2 i (xs.set n d))
          | none => none
        | none => none
      | _ => none
  | none => none
section
variable {c : Ctx} {X : Cx}
theorem Ok.freshS {F H : Hp} {σ : L2.St} {ρ : Rho} {p : Addr} {o : HO} {s0 : Sl} (I : Ok c F H σ ρ) (hp : H p = none) (i : Nat) (ok : c.H0 p = none → F p = none → SlOk c F (upd H p o) (some (V.ref p)) s0) : Ok c F (upd H p o) (σ.set i (some (V.ref p))) (ρ.set i s0) := by
  have hF : F p = none := ext_none I.fh hp
  have h0 : c.H0 p = none := by
    cases z : c.H0 p with
    | none => rfl
    | some o => obtain ⟨o', z'⟩ := I.al p o z; rw [hp] at z'; cases z'
  have J := I.grow (Grow.raw (o := o) I.fh hp)
  have ap : ∀ (j : Nat) (s : Sl) (q : Addr), ρ[j]? = some s → s.mut = true → σ[j]? = some (some (V.ref q)) → q ≠ p := fun j s q hs hm hq z => by
    subst z
    obtain ⟨ov, h1, h2⟩ := I.sl j s hs
    rw [hq] at h1; cases h1
    cases s with
    | no => cases hm
    | val d => cases hm
    | lam g0 => cases hm
    | own ys => obtain ⟨q, e, _, _, vs, a3, _⟩ := h2; cases e; rw [hp] at a3; cases a3
    | bor ys => obtain ⟨q, e, _, _, vs, a3, _⟩ := h2; cases e; rw [hp] at a3; cases a3
    | slf k ys => obtain ⟨q, e, _, _, dx, vs, a3, _⟩ := h2; cases e; rw [hp] at a3; cases a3
    | dic b k ys => obtain ⟨q, e, _, _, vs, a3, _⟩ := h2; cases e; obtain ⟨o, a4⟩ := DicAt.ob a3; rw [hp] at a4; cases a4
  refine ⟨by rw [List.length_set, List.length_set]; exact I.len, J.f0, J.fh, J.fr, J.al, J.n0, fun j s hs => ?_, fun a b s t pa qb ha hb ms mt hpa hqb e => ?_, J.hb, J.tb⟩
  · by_cases hj : i = j
    · subst hj
      have hi : i < ρ.length := by
        have := (List.getElem?_eq_some_iff.mp hs).1
        rwa [List.length_set] at this
      rw [List.getElem?_set_self hi] at hs
      cases hs
      exact ⟨some (V.ref p), by rw [List.getElem?_set_self (by rw [I.len]; exact hi)], ok h0 hF⟩
    · rw [List.getElem?_set_ne hj] at hs
      obtain ⟨ov, h1, h2⟩ := J.sl j s hs
      exact ⟨ov, by rw [List.getElem?_set_ne hj]; exact h1, h2⟩
  · by_cases ia : i = a
    · by_cases ib : i = b
      · exact ia.symm.trans ib
      · subst ia
        have hl : i < σ.length := by
          have := (List.getElem?_eq_some_iff.mp hpa).1
          rwa [List.length_set] at this
        rw [List.getElem?_set_self hl] at hpa
        cases hpa
        rw [List.getElem?_set_ne ib] at hb hqb
        exact absurd e.symm (ap b t qb hb mt hqb)
    · rw [List.getElem?_set_ne ia] at ha hpa
      by_cases ib : i = b
      · subst ib
        have hl : i < σ.length := by
          have := (List.getElem?_eq_some_iff.mp hqb).1
          rwa [List.length_set] at this
        rw [List.getElem?_set_self hl] at hqb
        cases hqb
        exact absurd e (ap a s pa ha ms hpa)
      · rw [List.getElem?_set_ne ib] at hb hqb
        exact I.ap a b s t pa qb ha hb ms mt hpa hqb e
theorem Ok.fresh {F H : Hp} {σ : L2.St} {ρ : Rho} {p : Addr} {us : List V} {xs : List D} (I : Ok c F H σ ρ) (hp : H p = none) (r : Reps c.G F us xs) (i : Nat) : Ok c F (upd H p (.lst us)) (σ.set i (some (V.ref p))) (ρ.set i (.own xs)) :=
  I.freshS hp i fun h0 hF => ⟨p, rfl, h0, hF, us, upd_same, r⟩
theorem Ok.changed {F H : Hp} {σ : L2.St} {ρ : Rho} {i : Nat} {xs ys : List D} {p : Addr} {us ws : List V} (I : Ok c F H σ ρ) (hx : conM ρ i = some xs) (hσ : σ[i]? = some (some (V.ref p))) (hp : H p = some (.lst us)) (hF : F p = none) (r : Reps c.G F ws ys) :
    Ok c F (upd H p (.lst ws)) σ (setM ρ i ys) := by
  refine I.lent hx hσ ⟨Ext.rfl', fun q o e => ?_, fun q o e n _ => ?_, fun q o e => ?_, fun q o _ n => n, fun tb => ⟨tabs_upd tb.t hp nt_lst nc_lst, tb.n⟩⟩ hF upd_same r
  · have : q ≠ p := fun z => by subst z; rw [hF] at e; cases e
    rw [upd_ne this]; exact I.fh q o e
  · have : q ≠ p := fun z => n (by rw [z]; exact List.mem_singleton.mpr rfl)
    rw [upd_ne this]; exact e
  · by_cases z : q = p
    · subst z; exact ⟨_, upd_same⟩
    · exact ⟨o, by rw [upd_ne z]; exact e⟩
theorem vs_own {i : Nat} {x : Str} {es : List Expr} {a : SA} {p1 pos pos' : Pos} (hN : X.N.Nodup) (ha : PA X es (va c a)) (hi : X.N[i]? = some x := by rfl) (hx : Loc X.env.scope x := by first | exact Or.inl rfl | exact Or.inr rfl) (hs : swapsWith (.List es p1) (some (.Name x pos')) pos.line X.env = pure false := by rfl) (hf : X.fn x = true ∨ X.env.scope.names.lookup x = some .local := by first | exact .inl rfl | exact .inr rfl) :
    PS X (.Assign [.Name x pos'] (.List es p1) pos) (vs c (kOwn i a)) :=
  ps_of (ps_set hN hi hx (pe_lst ha) hs hf) fun σ H E ⟨F, ρ, I, fl, ρ', e, q⟩ => by
    unfold kOwn at e
    split at e
    · rename_i xs ρ1 e1
      split at e
      · rename_i hl
        cases e
        refine ⟨F, ρ, I, xs, ρ1, e1, fun us H1 F1 x1 I1 r1 => ⟨by rw [r1.length]; exact ln_fit hl, fun p hp => ?_⟩⟩
        exact q _ _ _ x1 (I1.fresh hp r1 i)
      · cases e
    · cases e
theorem vs_app {i : Nat} {x : Str} {e : Expr} {s : SE} {p0 apos cpos pos : Pos} (h : PE X (.Name x p0) (tVar i)) (he : PE X e (vt c s))
    (hbase : attributeBase (.Name x p0) "append" X.env (eval (.Name x p0) X.env) = eval (.Name x p0) X.env := by rfl)
    (hfew : ((backTo cpos (starEach [e] X.env)).all (fun x => !x.1) && (backToKw cpos (keywordEach [] X.env)).all (fun x => x.1.isSome)
      && decide ([e].length + ([] : List Keyword).length + (if ([] : List Keyword).isEmpty then 0 else 1) < 30)) = true := by rfl)
    (hline : (apos.endLine == cpos.line) = true := by rfl) (hst : starEach [e] X.env = (false, eval e X.env) :: starEach [] X.env := by rfl) (hpl : (backTo cpos (starEach [] X.env)).any (·.1) = false := by rfl)
    (hs : swapsWith (.Call (.Attribute (.Name x p0) "append" apos) [e] [] cpos) none pos.line X.env = pure false := by rfl) :
    PS X (.Expr (.Call (.Attribute (.Name x p0) "append" apos) [e] [] cpos) pos) (vs c (kApp i s)) :=
  ps_of (ps_expr (pe_bm PySem.F.plainAttrs_list PySem.F.slot_list_append PySem.F.type_list_append (id := "list.append") (fun pins s σ H x xs v us Q I rx rv q => mt_append pins s σ H x xs v us Q I rx rv q) h (pa_cons he pa_nil hst) hbase hfew hline hst hpl) hs) fun σ H E ⟨F, ρ, I, fl, ρ', e, q⟩ => by
    unfold kApp at e
    split at e
    · cases e
    · rename_i xs0 e0
      obtain ⟨p, us0, g1, g2, _⟩ := I.own e0
      split at e
      · rename_i d ρ1 e1
        split at e
        · rename_i xs e2
          split at e
          · rename_i hl
            cases e
            refine ⟨_, g1, .inl ⟨rfl, _, .of g2⟩, F, ρ, I, d, ρ1, e1, fun v H1 F1 x1 I1 r1 => ?_⟩
            obtain ⟨p', us, k1, k2, k3, k4⟩ := I1.own e2
            rw [g1] at k1; cases k1
            refine ⟨_, us, v, rfl, rfl, k2, by rw [k4.length]; exact Nat.lt_of_lt_of_le hl (ln_fit (Nat.le_refl _)), ?_⟩
            exact q _ _ _ x1 (I1.changed e2 g1 k2 k3 (k4.append (.one r1)))
          · cases e
        · cases e
      · cases e
theorem Reps.setAt {G : Gx} {F : Hp} {vs : List V} {ds : List D} {v : V} {d : D} (r : Reps G F vs ds) (h : Rep G F v d) (n : Nat) : Reps G F (vs.set n v) (ds.set n d) := Reps.set h n r
theorem vs_put {i : Nat} {x : Str} {k e : Expr} {sk s : SE} {p0 tpos pos : Pos} (h : PE X (.Name x p0) (tVar i)) (hk : PE X k (vt c sk)) (he : PE X e (vt c s))
    (ha : ∀ v, assign (.Subscript (.Name x p0) k tpos) X.env v = (do
      let ov ← holding [v] (eval (.Name x p0) X.env)
      let iv ← holding [v, ov] (eval k X.env)
      standAt tpos
      holding [v, ov, iv] (setItem ov iv v)
      release [v, ov, iv] []) := by intro _; rfl)
    (hs : swapsWithSole [.Subscript (.Name x p0) k tpos] e pos.line X.env = pure false := by rfl) (hw : swappedStores [.Subscript (.Name x p0) k tpos] e X.env = pure none := by rfl)
    (h1 : (assignEach [.Subscript (.Name x p0) k tpos] X.env).map (·.2) = [assign (.Subscript (.Name x p0) k tpos) X.env] := by rfl) :
    PS X (.Assign [.Subscript (.Name x p0) k tpos] e pos) (vs c (kPut i sk s)) :=
  ps_of (ps_asg he (pg_sub h hk set_list ha) hs hw h1) fun σ H E ⟨F, ρ, I, fl, ρ', e, q⟩ => by
    unfold kPut at e
    split at e
    · rename_i d ρ1 e1
      split at e
      · cases e
      · rename_i xs0 e0
        split at e
        · rename_i j ρ2 e2
          split at e
          · rename_i xs e3
            split at e
            · rename_i n e4
              cases e
              refine ⟨F, ρ, I, d, ρ1, e1, fun v H1 F1 x1 I1 r1 => ?_⟩
              obtain ⟨p, us0, g1, g2, _⟩ := I1.own e0
              refine ⟨_, g1, F1, ρ1, I1, _, ρ2, e2, fun w H2 F2 x2 I2 r2 => ?_⟩
              cases r2
              obtain ⟨p', us, k1, k2, k3, k4⟩ := I2.own e3
              rw [g1] at k1; cases k1
              refine ⟨_, us, j, n, rfl, rfl, k2, by rw [k4.length]; exact e4, ?_⟩
              exact q _ _ _ (x1.trans x2) (I2.changed e3 g1 k2 k3 (k4.setAt (r1.ext x2) n))
            · cases e
          · cases e
        · cases e
    · cases e
def kTup (is : List Nat) (e : SE) : SS := fun ρ => match e ρ with
  | some (.tup ds, ρ1) => match sets is ds ρ1 with
    | some ρ2 => some (.nx, ρ2)
    | none => none
  | _ => none
theorem vs_tup {es : List Expr} {k : Nat} {e : Expr} {s : SE} {tpos pos : Pos} (is : List Nat) (he : PE X e (vt c s)) (hg : PG X (.Tuple es k tpos) (gT X.K (.tp is)))
    (hs : swapsWithSole [.Tuple es k tpos] e pos.line X.env = pure false := by rfl) (hw : swappedStores [.Tuple es k tpos] e X.env = pure none := by rfl) (h1 : (assignEach [.Tuple es k tpos] X.env).map (·.2) = [assign (.Tuple es k tpos) X.env] := by rfl) :
    PS X (.Assign [.Tuple es k tpos] e pos) (vs c (kTup is s)) :=
  ps_of (ps_asg he hg hs hw h1) fun σ H E ⟨F, ρ, I, fl, ρ', e, q⟩ => by
    unfold kTup at e
    split at e
    · rename_i ds ρ1 e1
      split at e
      · rename_i ρ2 e2
        cases e
        exact ⟨F, ρ, I, _, ρ1, e1, fun v H1 F1 x1 I1 r1 => tgt_w (t := .tp is) I1 r1 e2 fun σ' I' _ => q _ _ _ x1 I'⟩
      · cases e
    · cases e
def kPar (is : List Nat) (a : SA) : SS := fun ρ => match a ρ with
  | some (ds, ρ1) => match sets is ds ρ1 with
    | some ρ2 => some (.nx, ρ2)
    | none => none
  | none => none
theorem vs_par3 {i j l : Nat} {x y z : Str} {a b d : Expr} {sa : SA} {px py pz pt pos : Pos} {kt k2 pt2} (hc : X.calm = true) (hN : X.N.Nodup) (ha : PA X [a, b, d] (va c sa)) (hw : swappedStores [.Tuple [.Name x px, .Name y py, .Name z pz] kt pt] (.Tuple [a, b, d] k2 pt2) X.env = pure (some [x, y, z]))
    (hi : X.N[i]? = some x := by rfl) (hj : X.N[j]? = some y := by rfl) (hl : X.N[l]? = some z := by rfl) (hij : i ≠ j := by decide) (hil : i ≠ l := by decide) (hjl : j ≠ l := by decide)
    (hx : X.env.scope.names.lookup x = some .local := by rfl) (hy : X.env.scope.names.lookup y = some .local := by rfl) (hz : X.env.scope.names.lookup z = some .local := by rfl)
    (hs : swapsWithSole [.Tuple [.Name x px, .Name y py, .Name z pz] kt pt] (.Tuple [a, b, d] k2 pt2) pos.line X.env = pure false := by rfl) :
    PS X (.Assign [.Tuple [.Name x px, .Name y py, .Name z pz] kt pt] (.Tuple [a, b, d] k2 pt2) pos) (vs c (kPar [i, j, l] sa)) :=
  ps_of (ps_par3 hc hN hi hj hl hij hil hjl hx hy hz ha hw hs) fun σ H E ⟨F, ρ, I, fl, ρ', e, q⟩ => by
    unfold kPar at e
    split at e
    · rename_i ds ρ1 e1
      split at e
      · rename_i ρ2 e2
        cases e
        refine ⟨F, ρ, I, ds, ρ1, e1, fun us H1 F1 x1 I1 r1 => ?_⟩
        have hl := sets_len e2
        match ds, hl, e2, r1 with
        | [d1, d2, d3], _, e2, r1 =>
          obtain ⟨v, v', v2, ev, r, r', r2⟩ := reps3 r1
          refine ⟨v, v', v2, ev, ?_⟩
          simp only [sets] at e2
          cases e2
          exact q _ _ _ x1 (((I1.put i r).put j r').put l r2)
      · cases e
    · cases e
end
end VS

set_option Elab.async false
set_option linter.all false
set_option maxRecDepth 100000
set_option maxHeartbeats 4000000
namespace VS
open PySem PySem.Spec PyProof.Rows L2

def kRetL (a : SA) : SS := fun ρ => match a ρ with
  | some (xs, ρ1) => if xs.length ≤ LN then some (.rm xs, ρ1) else none
  | none => none
abbrev MirM := List Sl → Option (List D)
def mirM (n : Nat) (s : SS) : MirM := fun sl => match s (sl ++ List.replicate (n - sl.length) .no) with
  | some (.rm xs, _) => some xs
  | _ => none
def spM (G : Gx) (n : Nat) (m : MirM) : Sp := fun vs H Q _ => ∃ F ds, Ext F H ∧ TbOk G.T F H ∧ Reps G F vs ds ∧ ds.length = n ∧ ∃ xs, m (ds.map .val) = some xs ∧
  ∀ p us H' F', Keep G.T [] F H F' H' → H p = none → F' p = none → H' p = some (.lst us) → Reps G F' us xs → Q (.ref p) H'
structure CalM (P : Program) (w : World) (G : Gx) (mg : Str → Option Value) (base : Heap) (x : Str) (k n : Nat) (m : MirM) : Prop where
  ex : ∃ (f : Addr) (fd : FuncData) (ps : List Str), mg x = some (.ref f) ∧ PySem.W.keepIn G.K (.ref f) = true ∧ Binds G.K fd ps [] ∧ FnOk P w G.K mg base CX0 k f fd ps (spM G n m)
theorem fn_okM {P : Program} {w : World} {G : Gx} {mg : Str → Option Value} {base : Heap} {x qual : Str} {st : Stmt} {f : Addr} {fd : FuncData} {N ps : List Str} {k : Nat} {s : SS} (F : Fun G.K x qual st f fd) (S : FnScope N ps (defScope st))
    (hb : ∀ (c : Ctx) (cdv : Value) (A : Around) (outer : List Env) (sh : Shared) (H : Hp) (E : XK), c.G = G → Room k (A.deeper (envOfC qual (defScope st) sh.heap.objs.size f cdv)) →
      PSs (cxOf CX0 P w G.K mg base N qual (defScope st) f cdv A outer sh H E).nox (defBody st) (vs c s)) :
    FnOk P w G.K mg base CX0 (k + 1) f fd ps (spM G ps.length (mirM N.length s)) := by
  refine F.ok S (fun us H Q E h => ?_) (fun cdv A outer sh H us Q E hr h => ?_)
  · obtain ⟨F0, ds, _, _, a, hn, _⟩ := h
    rw [a.length, hn]
  · obtain ⟨F0, ds, e, tb, a, hn, xs, hm, q⟩ := h
    refine ⟨vs ⟨G, F0, H, []⟩ s, hb _ cdv A outer sh H E rfl hr, ?_⟩
    unfold mirM at hm
    split at hm
    · rename_i xs' ρ h1
      cases hm
      have hl := a.length
      refine ⟨F0, _, (by have := ok_start e tb (.vals a) (N.length - (ds.map Sl.val).length); unfold L2.start; rw [hl, ← List.length_map (f := Sl.val) (as := ds)]; exact this), .rm xs, ρ, h1, ?_⟩
      exact fun p us σ H' F' x I a1 a2 a3 r => q p us H' F' ⟨I.f0, I.fh, fun p o h n m => I.fr p o h n m, I.al, I.n0, fun _ => I.tb⟩ a1 a2 a3 r
    · cases hm
section
variable {c : Ctx} {X : Cx}
theorem vs_retL {es : List Expr} {a : SA} {p1 pos : Pos} (ha : PA X es (va c a)) : PS X (.Return (some (.List es p1)) pos) (vs c (kRetL a)) :=
  ps_of (ps_ret (pe_lst ha)) fun σ H E ⟨F, ρ, I, fl, ρ', e, q⟩ => by
    unfold kRetL at e
    split at e
    · rename_i xs ρ1 e1
      split at e
      · rename_i hl
        cases e
        refine ⟨F, ρ, I, xs, ρ', e1, fun us H1 F1 x1 I1 r1 => ⟨by rw [r1.length]; exact ln_fit hl, fun p hp => ?_⟩⟩
        have h0 : c.H0 p = none := by
          cases z : c.H0 p with
          | none => rfl
          | some o => obtain ⟨o', z'⟩ := I1.al p o z; rw [hp] at z'; cases z'
        exact q p us σ _ F1 x1 (I1.grow (Grow.raw I1.fh hp)) h0 (ext_none I1.fh hp) upd_same r1
      · cases e
    · cases e
theorem Ok.take {F H : Hp} {σ : L2.St} {ρ : Rho} {p : Addr} {us : List V} {xs : List D} (I : Ok c F H σ ρ) (hF : F p = none) (hp : H p = some (.lst us)) (h0 : c.H0 p = none) (ap : ∀ (j : Nat) (s : Sl) (q : Addr), ρ[j]? = some s → s.mut = true → σ[j]? = some (some (V.ref q)) → q ≠ p) (r : Reps c.G F us xs) (i : Nat) :
    Ok c F H (σ.set i (some (V.ref p))) (ρ.set i (.own xs)) := by
  refine ⟨by rw [List.length_set, List.length_set]; exact I.len, I.f0, I.fh, I.fr, I.al, I.n0, fun j s hs => ?_, fun a b s t pa qb ha hb ms mt hpa hqb e => ?_, I.hb, I.tb⟩
  · by_cases hj : i = j
    · subst hj
      have hi : i < ρ.length := by
        have := (List.getElem?_eq_some_iff.mp hs).1
        rwa [List.length_set] at this
      rw [List.getElem?_set_self hi] at hs
      cases hs
      exact ⟨some (V.ref p), by rw [List.getElem?_set_self (by rw [I.len]; exact hi)], p, rfl, h0, hF, us, hp, r⟩
    · rw [List.getElem?_set_ne hj] at hs
      obtain ⟨ov, h1, h2⟩ := I.sl j s hs
      exact ⟨ov, by rw [List.getElem?_set_ne hj]; exact h1, h2⟩
  · by_cases ia : i = a
    · by_cases ib : i = b
      · exact ia.symm.trans ib
      · subst ia
        have hl : i < σ.length := by
          have := (List.getElem?_eq_some_iff.mp hpa).1
          rwa [List.length_set] at this
        rw [List.getElem?_set_self hl] at hpa
        cases hpa
        rw [List.getElem?_set_ne ib] at hb hqb
        exact absurd e.symm (ap b t qb hb mt hqb)
    · rw [List.getElem?_set_ne ia] at ha hpa
      by_cases ib : i = b
      · subst ib
        have hl : i < σ.length := by
          have := (List.getElem?_eq_some_iff.mp hqb).1
          rwa [List.length_set] at this
        rw [List.getElem?_set_self hl] at hqb
        cases hqb
        exact absurd e (ap a s pa ha ms hpa)
      · rw [List.getElem?_set_ne ib] at hb hqb
        exact I.ap a b s t pa qb ha hb ms mt hpa hqb e
theorem Ok.no_slot {F H : Hp} {σ : L2.St} {ρ : Rho} (I : Ok c F H σ ρ) {p : Addr} (hp : H p = none) : ∀ (j : Nat) (s : Sl) (q : Addr), ρ[j]? = some s → s.mut = true → σ[j]? = some (some (V.ref q)) → q ≠ p := fun j s q hs hm hq z => by
  subst z
  obtain ⟨ov, h1, h2⟩ := I.sl j s hs
  rw [hq] at h1; cases h1
  cases s with
  | no => cases hm
  | val d => cases hm
  | lam g0 => cases hm
  | own ys => obtain ⟨q, e, _, _, vs, a3, _⟩ := h2; cases e; rw [hp] at a3; cases a3
  | bor ys => obtain ⟨q, e, _, _, vs, a3, _⟩ := h2; cases e; rw [hp] at a3; cases a3
  | slf k ys => obtain ⟨q, e, _, _, dx, vs, a3, _⟩ := h2; cases e; rw [hp] at a3; cases a3
  | dic b k ys => obtain ⟨q, e, _, _, vs, a3, _⟩ := h2; cases e; obtain ⟨o, a4⟩ := DicAt.ob a3; rw [hp] at a4; cases a4
theorem Ok.no_H0 {F H : Hp} {σ : L2.St} {ρ : Rho} (I : Ok c F H σ ρ) {p : Addr} (hp : H p = none) : c.H0 p = none := by
  cases z : c.H0 p with
  | none => rfl
  | some o => obtain ⟨o', z'⟩ := I.al p o z; rw [hp] at z'; cases z'
end
end VS

set_option Elab.async false
set_option linter.all false
set_option maxRecDepth 100000
set_option maxHeartbeats 8000000
namespace VS
open PySem PySem.Spec PyProof.Rows L2

section
variable {κ : Type} [DecidableEq κ]
def firsts (val : Nat → κ) : Nat → List κ
  | 0 => []
  | i + 1 => if val i ∈ firsts val i then firsts val i else firsts val i ++ [val i]
theorem firsts_le (val : Nat → κ) : ∀ i, (firsts val i).length ≤ i
  | 0 => Nat.le_refl _
  | i + 1 => by
    have := firsts_le val i
    unfold firsts
    split
    · omega
    · rw [List.length_append]; simp; omega
end
section
variable {κ : Type} [DecidableEq κ] [BEq κ] [LawfulBEq κ] {prog : Program} {w : World} {A : Around} {knd : KeyKind prog w κ}
theorem upd_turns {R : Result → Shared → Prop} {it a : Addr} {fp wr : List Addr} {Gn : Array GenState → Array GenState → Prop} {n : Nat} {Pv : Nat → Value → Prop} {St : Nat → Shared → Prop}
    (W : WalksS prog w A.in1 it fp wr Gn n Pv St) (out : a ∉ fp) (val : Nat → κ) (keyed : ∀ i v, Pv i v → knd.is (val i) v = true ∧ v.scannable = true) (few : n + 1 < scanBound)
    (left : Nat) :
    ∀ (i : Nat) (s : Shared), left = n - i → i ≤ n → St i s → s.heap.SetOf knd a (fun k => decide (k ∈ firsts val i)) (firsts val i).length →
      (∀ s', Moved (a :: wr) Gn s s' → s'.heap.SetOf knd a (fun k => decide (k ∈ firsts val n)) (firsts val n).length → R (.ok (.ret .none)) s') →
      codeAny (model prog w) A (.builtin "set.update.loop" ⟨[.ref a, .ref it], []⟩) R s := by
  have outw : a ∉ wr := fun z => out (W.sub a z)
  have wide : ∀ b ∈ wr, b ∈ a :: wr := fun _ z => List.mem_cons_of_mem _ z
  induction left with
  | zero =>
    intro i s e1 e2 st hS fin
    obtain rfl : i = n := by omega
    refine codeAny_builtin PyProof.Rows.F.entry_set_update_loop ?_
    rw [Around.under_plainId PyProof.Rows.F.plain_set_update_loop _]
    change wpAny _ A.in1 (pyNext (.ref it) >>= _) _ _ s
    refine wpAny_bind (W.done s _ _ st ?_)
    intro s' mv
    have hS' : s'.heap.SetOf knd a (fun k => decide (k ∈ firsts val i)) (firsts val i).length := by
      rcases hS with ⟨o, es, ep, t, ho, more⟩
      exact ⟨o, es, ep, t, mv.heap a o outw ho, more⟩
    exact wpAny_pure (fin s' (mv.mono wide) hS')
  | succ left again =>
    intro i s e1 e2 st hS fin
    have lt : i < n := by omega
    refine codeAny_builtin PyProof.Rows.F.entry_set_update_loop ?_
    rw [Around.under_plainId PyProof.Rows.F.plain_set_update_loop _]
    change wpAny _ A.in1 (pyNext (.ref it) >>= _) _ _ s
    refine wpAny_bind (W.item i s _ _ lt st ?_)
    intro v s' hv st' mv
    obtain ⟨kv, sv⟩ := keyed i v hv
    have hS' : s'.heap.SetOf knd a (fun k => decide (k ∈ firsts val i)) (firsts val i).length := by
      rcases hS with ⟨o, es, ep, t, ho, more⟩
      exact ⟨o, es, ep, t, mv.heap a o outw ho, more⟩
    change wpAny _ A.in1 (holding [v] (setAdd a v) >>= _) _ _ s'
    refine wpAny_bind (wpAny_holding ?_)
    unfold setAdd
    refine wpAny_holding (wpAny_bind (knd.pyHash kv ?_))
    have room : (firsts val i).length + 1 < scanBound := by have := firsts_le val i; omega
    refine wpAny_setAddHashed_of (knd := knd) (s := { s' with toks := s'.toks + 1 }) kv sv hS' room ?_
    intro h' same hS2
    have e3 : (fun k => decide (k ∈ firsts val i) || decide (k = val i)) = fun k => decide (k ∈ firsts val (i + 1)) := by
      funext k
      by_cases z : val i ∈ firsts val i
      · have : firsts val (i + 1) = firsts val i := by rw [firsts, if_pos z]
        rw [this]
        by_cases y : k = val i
        · subst y; simp [z]
        · simp [y]
      · have : firsts val (i + 1) = firsts val i ++ [val i] := by rw [firsts, if_neg z]
        rw [this]
        simp [List.mem_append]
    have e4 : (if (fun k => decide (k ∈ firsts val i)) (val i) = true then (firsts val i).length else (firsts val i).length + 1) = (firsts val (i + 1)).length := by
      by_cases z : val i ∈ firsts val i
      · simp [firsts, z]
      · simp [firsts, z]
    have hS3 : h'.SetOf knd a (fun k => decide (k ∈ firsts val (i + 1))) (firsts val (i + 1)).length := PyProof.Rows.SetOf_congr hS2 (fun k => congrFun e3 k) e4
    have stay : ∀ b, b ≠ a → ∀ o, s'.heap.get? b = some o → h'.get? b = some o := fun b z o e => (same.2 b z).trans e
    refine wpAny_pure ⟨plainId_quiet PyProof.Rows.F.plain_set_update_loop _, again (i + 1) _ (by omega) lt (W.frame _ s' _ _ st' (Nat.le_succ _) fun b hb o e => stay b (fun z => out (z ▸ hb)) o e) hS3 ?_⟩
    intro s'' mv2 hS4
    refine fin s'' (Moved.trans W.gtrans ((mv.mono wide).then_heap (Nat.le_succ _) fun b o hb e => stay b (fun z => hb (by rw [z]; exact List.mem_cons_self)) o e) mv2) hS4
theorem set_of_list0 {E : Value → Shared → Prop} {s : Shared} {l : Addr} {its : Array Value} (val : Nat → κ) {Q : Value → Shared → Prop} (calm : A.handled = none) (hl : s.heap.IsList l its)
    (keyed : ∀ (i : Nat) v, its[i]? = some v → knd.is (val i) v = true ∧ v.scannable = true) (few : its.size + 1 < scanBound)
    {Pst : Heap → Prop} (hPst : ∀ h' : Heap, h'.SetOf knd s.heap.objs.size (fun k => decide (k ∈ firsts val its.size)) (firsts val its.size).length → Pst h')
    (fin : ∀ h' tk, Pst h' → (∀ b o, b < s.heap.objs.size → s.heap.get? b = some o → h'.get? b = some o) → Q (.ref s.heap.objs.size) { s with heap := h', toks := tk }) :
    wpAny (model prog w) A (call (.type "set") [.ref l]) Q E s := by
  let nu : Bool → Obj := fun led => { cls := .type "set", dict := none, data := .set #[] 0 (.fresh 0 0 led) }
  obtain ⟨cc, tl, hmro⟩ := PySem.F.called_set.mro
  have a1 := PySem.F.called_set.made
  have a2 := PySem.F.called_set.sub
  have a3 := PySem.F.called_set.notType
  have a4 := PySem.F.called_set.canCreate
  have a5 := PySem.F.typeCall_set_1 (.ref l)
  refine wpAny_call (codeAny_of_tree ?_)
  change wpAny _ _ (callAny (.type "set") _) _ _ _
  refine wpAny_pure ⟨Code.quiet_builtin _ (by decide +kernel), codeAny_builtin PySem.F.entry_type_call ?_⟩
  rw [Around.under_plain (weight_type_call_type "set" [.ref l] []) rfl]
  repeat (any_goals (first | assumption | wp_step))
  refine codeAny_mono (PySem.code_set_new_1 (.ref l) (E := E) (Q₁ := fun ob s1 => ∃ led : Bool, ob = .ref s.heap.objs.size ∧ s1 = { s with heap := s.heap.push (nu led) }) fun led => ⟨led, rfl, rfl⟩) ?_
  intro r s1 hr
  cases r with
  | error e => exact hr
  | ok fl =>
    cases fl with
    | next => exact hr
    | brk => exact hr
    | cont => exact hr
    | ret ob =>
      obtain ⟨led, rfl, rfl⟩ := hr
      have new0 : (s.heap.push (nu led)).get? s.heap.objs.size = some (nu led) := Heap.get?_push_size _ rfl
      have ty0 : Shared.TypeIs { s with heap := s.heap.push (nu led) } (.ref s.heap.objs.size) "set" := ⟨_, new0, rfl⟩
      have b1 := PySem.F.called_set.init.lookup
      have b2 := PySem.F.called_set.init.bind (.ref s.heap.objs.size)
      repeat (any_goals (first | assumption | wp_step))
      refine codeAny_mono (codeAny_call_builtin (R := wants (fun r s2 => r = .none ∧ ∃ h' tk, s2 = { s with heap := h', toks := tk } ∧ Pst h' ∧ ∀ b o, b < s.heap.objs.size → s.heap.get? b = some o → h'.get? b = some o) E)
        PySem.F.called_set.init.plain PySem.F.entry_set_init (PySem.check_set_init_1 ty0 ?_)) ?_
      · obtain ⟨⟨k1, k2, k3, k4⟩, ho, kc, n, kd⟩ := hl
        simp only at kc kd
        subst kc kd
        have old : (s.heap.push (nu led)).get? l = some { cls := .type "list", dict := k2, data := .seq its n, slots := k4 } := Heap.get?_push_of_some _ ho
        have c1 := PySem.F.sub_list_set
        have c2 := PySem.F.sub_list_frozenset
        have c3 : (Value.type "list" == Value.type "dict") = false := by decide
        have here : (s.heap.push (nu led)).IsList l its := ⟨_, old, rfl, n, rfl⟩
        clear a1 a2 a3 a4 a5 b1 b2 hmro
        unfold Builtin.«set.__init__» noKeywords Builtin.Frozenset.updateFrom
        generalize hPI : pyIter = PI
        wp_walk
        subst hPI
        refine wpAny_pyIter_list here (wpAny_bind (wpAny_runValue ?_))
        have lt : l < s.heap.objs.size := Heap.lt_size ho
        have z1 : (s.heap.push (nu led)).objs.size = s.heap.objs.size + 1 := Heap.size_push _ _
        have calm3 : A.in1.in1.in1.handled = none := calm
        have ne : l ≠ (s.heap.push (nu led)).objs.size := by rw [z1]; exact Nat.ne_of_lt (Nat.lt_succ_of_lt lt)
        have out : s.heap.objs.size ∉ [(s.heap.push (nu led)).objs.size, l] := by
          rw [z1]
          intro z
          rcases List.mem_cons.mp z with z | z
          · exact absurd z (Nat.ne_of_lt (Nat.lt_succ_self _))
          · exact absurd (List.mem_singleton.mp z) (Nat.ne_of_gt lt)
        refine upd_turns (knd := knd) ((Walks.list calm3 _ l ne its).toS) out val keyed few (its.size - 0) 0 _ rfl (Nat.zero_le _) ⟨⟨_, Heap.get?_push_size _ rfl, rfl, rfl⟩, here.push _⟩ ?_ ?_
        · refine PyProof.Rows.SetOf_congr ((PyProof.Rows.setObjOf_fresh (knd := knd) led).setOf (Heap.get?_push_of_some _ new0) (by unfold scanBound; omega)) (fun k => ?_) rfl
          simp [firsts]
        · rintro ⟨h', g', d', tk', os'⟩ mv hS
          obtain rfl : g' = s.gens := mv.gens
          obtain rfl : d' = s.drawn := mv.drawn
          obtain rfl : os' = s.os := mv.os
          change wpAny _ _ _ _ _ _
          refine wpAny_pure ?_
          change wpAny _ _ (ret Value.none) _ _ _
          refine wpAny_pure ⟨rfl, h', tk', rfl, hPst _ hS, ?_⟩
          intro b o hb e
          refine mv.heap b o ?_ (Heap.get?_push_of_some _ (Heap.get?_push_of_some _ e))
          intro z
          rcases List.mem_cons.mp z with z | z
          · exact absurd z (Nat.ne_of_lt hb)
          · rw [List.mem_singleton, z1] at z
            exact absurd z (Nat.ne_of_lt (Nat.lt_succ_of_lt hb))
      · intro r2 s2 hr2
        cases r2 with
        | error e => exact hr2
        | ok fl2 =>
          cases fl2 with
          | next => exact hr2
          | brk => exact hr2
          | cont => exact hr2
          | ret u =>
            obtain ⟨rfl, h', tk, rfl, hS, old⟩ := hr2
            repeat (any_goals (first | assumption | wp_step))
            exact fin _ _ hS old
end
end VS

set_option Elab.async false
set_option linter.all false
set_option maxRecDepth 100000
set_option maxHeartbeats 4000000
namespace VS
open PySem PySem.Spec PyProof.Rows L2

def distinct {α : Type} [DecidableEq α] : List α → Nat
  | [] => 0
  | a :: r => if a ∈ r then distinct r else distinct r + 1
section
variable {κ : Type} [DecidableEq κ]
theorem firsts_mem (val : Nat → κ) : ∀ (n : Nat) (k : κ), k ∈ firsts val n ↔ ∃ i, i < n ∧ val i = k
  | 0, k => by simp [firsts]
  | n + 1, k => by
    unfold firsts
    split
    · rename_i h
      rw [firsts_mem val n k]
      constructor
      · rintro ⟨i, h1, h2⟩; exact ⟨i, by omega, h2⟩
      · rintro ⟨i, h1, h2⟩
        by_cases z : i = n
        · subst z; subst h2; exact (firsts_mem val i _).mp h
        · exact ⟨i, by omega, h2⟩
    · rw [List.mem_append, firsts_mem val n k, List.mem_singleton]
      constructor
      · rintro (⟨i, h1, h2⟩ | h)
        · exact ⟨i, by omega, h2⟩
        · exact ⟨n, by omega, h.symm⟩
      · rintro ⟨i, h1, h2⟩
        by_cases z : i = n
        · subst z; exact .inr h2.symm
        · exact .inl ⟨i, by omega, h2⟩
theorem firsts_nodup (val : Nat → κ) : ∀ n, (firsts val n).Nodup
  | 0 => by simp [firsts]
  | n + 1 => by
    unfold firsts
    split
    · exact firsts_nodup val n
    · rename_i h
      rw [List.nodup_append]
      refine ⟨firsts_nodup val n, by simp, fun a ha b hb e => ?_⟩
      rw [List.mem_singleton] at hb
      subst hb e
      exact h ha
def dedup : List κ → List κ
  | [] => []
  | a :: r => if a ∈ r then dedup r else a :: dedup r
theorem dedup_mem : ∀ (l : List κ) (k : κ), k ∈ dedup l ↔ k ∈ l
  | [], k => by simp [dedup]
  | a :: r, k => by
    unfold dedup
    split
    · rename_i h
      rw [dedup_mem r k, List.mem_cons]
      exact ⟨.inr, fun z => z.elim (fun z => z ▸ h) id⟩
    · rw [List.mem_cons, List.mem_cons, dedup_mem r k]
theorem dedup_nodup : ∀ l : List κ, (dedup l).Nodup
  | [] => by simp [dedup]
  | a :: r => by
    unfold dedup
    split
    · exact dedup_nodup r
    · rename_i h
      rw [List.nodup_cons, dedup_mem]
      exact ⟨h, dedup_nodup r⟩
theorem dedup_length : ∀ l : List κ, (dedup l).length = distinct l
  | [] => rfl
  | a :: r => by
    unfold dedup distinct
    split
    · exact dedup_length r
    · rw [List.length_cons, dedup_length r]
theorem firsts_length {xs : List κ} {val : Nat → κ} (h : ∀ (i : Nat) x, xs[i]? = some x → val i = x) : (firsts val xs.length).length = distinct xs := by
  rw [← dedup_length]
  refine Nat.le_antisymm ?_ ?_
  · refine (firsts_nodup val _).length_le_of_subset fun k hk => ?_
    obtain ⟨i, h1, h2⟩ := (firsts_mem val _ k).mp hk
    rw [dedup_mem]
    have : xs[i]? = some xs[i] := List.getElem?_eq_getElem h1
    rw [← h2, h i _ this]
    exact List.getElem_mem h1
  · refine (dedup_nodup xs).length_le_of_subset fun k hk => ?_
    rw [dedup_mem] at hk
    obtain ⟨i, h1, h2⟩ := List.mem_iff_getElem.mp hk
    exact (firsts_mem val _ k).mpr ⟨i, h1, by rw [h i _ (List.getElem?_eq_getElem h1)]; exact h2⟩
theorem distinct_nodup {l : List κ} (h : l.Nodup) : distinct l = l.length := by
  induction l with
  | nil => rfl
  | cons a r ih =>
    rw [List.nodup_cons] at h
    unfold distinct
    rw [if_neg h.1, ih h.2, List.length_cons]
end
def gLenSet : G1
  | .lst xs => match strs' xs with
    | some ss => if ss.length ≤ 4000 then some (.int (distinct ss)) else none
    | none => match toIs xs with
      | some is => if is.length ≤ 4000 then some (.int (distinct is)) else none
      | none => none
  | _ => none
theorem strs_reps {G : Gx} {F : Hp} : ∀ {vs : List V} {ds : List D} {is : List Str}, Reps G F vs ds → strs' ds = some is → vs = is.map V.str
  | _, _, _, .nil, h => by unfold strs' at h; cases h; rfl
  | _, _, _, .cons h1 r, h => by
    unfold strs' at h
    split at h
    · rename_i hq; exact absurd hq (by simp)
    · split at h
      · rename_i he _ js hj
        cases h; injection he with e1 e2; subst e1 e2; cases h1; rw [strs_reps r hj]; rfl
      · cases h
    · cases h
theorem vals_at {α : Type} {f : α → V} {is : List α} {us : List Value} (r : Vals (is.map f) us) {i : Nat} {u : Value} (h : us[i]? = some u) : ∃ x, is[i]? = some x ∧ RelV (f x) u := by
  have hl : i < (is.map f).length := by rw [r.length]; exact (List.getElem?_eq_some_iff.mp h).1
  obtain ⟨u', h1, h2⟩ := r.get (List.getElem?_eq_getElem hl)
  rw [h] at h1; cases h1
  rw [List.length_map] at hl
  exact ⟨is[i], List.getElem?_eq_getElem hl, by simpa using h2⟩
section
variable {c : Ctx} {X : Cx}
theorem ve_lenSet {a : Expr} {sa : SE} {p p2 q pos : Pos} (hc : X.calm = true) (hm : X.mg "len" = none) (hm2 : X.mg "set" = none) (ha : PE X a (vt c sa)) (hg : Gl X "len" := by rfl) (hg2 : Gl X "set" := by rfl)
    (n1 : starEach [a] X.env = (false, eval a X.env) :: starEach [] X.env := by rfl) : PE X (.Call (.Name "len" p) [.Call (.Name "set" p2) [a] [] q] [] pos) (vt c (s1 gLenSet sa)) := by
  constructor
  intro pins s σ H Q I h
  obtain ⟨F, ρ, I', d, ρ', e, fin⟩ := h
  obtain ⟨x, e1, e2⟩ := s1_inv e
  refine Call_ (ld_blt I hg hm boot_len (PyProof.Rows.callWith_builtin1 (PyProof.Rows.args_cons (Call_ (ld_blt I hg2 hm2 boot_set ?_)) rfl) rfl rfl))
  refine PyProof.Rows.callWith_type1 (PyProof.Rows.args_cons (thn (ha.run pins s σ H (fun v H1 => ∃ l, v = .ref l ∧ ((∃ ss : List Str, H1 l = some (.lst (ss.map V.str)) ∧ ss.length ≤ 4000 ∧ Q (.int (distinct ss)) H1) ∨ ∃ is : List Int, H1 l = some (.lst (is.map V.int)) ∧ is.length ≤ 4000 ∧ Q (.int (distinct is)) H1)) I ⟨F, ρ, I', x, ρ', e1, fun v H1 F1 x1 I1 r1 => ?_⟩) ?_) n1) n1 rfl
  · unfold gLenSet at e2
    split at e2
    · cases r1 with
      | lst h1 rs =>
        split at e2
        · rename_i ss hs
          split at e2
          · rename_i hl
            cases e2
            exact ⟨_, rfl, .inl ⟨ss, by rw [← strs_reps rs hs]; exact I1.fh _ _ h1, hl, fin _ _ _ x1 I1 (.int _)⟩⟩
          · cases e2
        · split at e2
          · rename_i is hs
            split at e2
            · rename_i hl
              cases e2
              exact ⟨_, rfl, .inr ⟨is, by rw [← ints_reps rs hs]; exact I1.fh _ _ h1, hl, fin _ _ _ x1 I1 (.int _)⟩⟩
            · cases e2
          · cases e2
    · cases e2
  · rintro u s1 ⟨v, H1, I1, ru, l, rfl, q1⟩
    cases ru
    refine PyProof.Rows.args_nil ?_
    have stop : ∀ {κ : Type} [DecidableEq κ] [BEq κ] [LawfulBEq κ] {knd : PySem.KeyKind X.prog X.w κ} {xs : List κ} {val : Nat → κ} {its : List Value}, its.length = xs.length → xs.length ≤ 4000 → (∀ (i : Nat) x, xs[i]? = some x → val i = x) → Q (.int (distinct xs)) H1 →
        ∀ h' tk, h'.SetOf knd s1.heap.objs.size (fun k => decide (k ∈ firsts val its.toArray.size)) (firsts val its.toArray.size).length → (∀ b o, b < s1.heap.objs.size → s1.heap.get? b = some o → h'.get? b = some o) →
        wpAny (model X.prog X.w) X.A (spliced (backTo pos (starEach [] X.env))) (fun vs s₂ => wpAny (model X.prog X.w) X.A (call (.builtin "len") (Value.ref s1.heap.objs.size :: vs)) (EP X pins σ Q) X.xe s₂) X.xe { s1 with heap := h', toks := tk } := by
      intro κ _ _ _ knd xs val its hlen h4 hval hQ h' tk hS hk
      refine PyProof.Rows.args_nil ?_
      have hsz : its.toArray.size = xs.length := by rw [List.size_toArray]; exact hlen
      rw [hsz] at hS
      rw [firsts_length hval] at hS
      obtain ⟨o, es, ep, t, ho, hex, hd, _, _, _, hf, hn⟩ := hS
      have I2 : Inv X pins σ H1 { s1 with heap := h', toks := tk } := I1.kept fun b o e => hk b o (Heap.lt_size e) e
      have small : distinct xs ≤ 4000 := by
        rw [← firsts_length hval]
        exact Nat.le_trans (firsts_le _ _) h4
      exact call_len_set ho hex hd hf (by rw [hn]; omega) ⟨.int (distinct xs), H1, I2.tok _, ⟨_, by rw [hn]⟩, hQ⟩
    rcases q1 with ⟨ss, hh, hl, hQ⟩ | ⟨is, hh, hl, hQ⟩
    · obtain ⟨its, rv, pl, hz⟩ := I1.list (.of hh : SqL X.K H1 l _)
      have hlen : its.length = ss.length := by rw [← rv.length, List.length_map]
      have hval : ∀ (i : Nat) x, ss[i]? = some x → (fun i => ss.getD i Str.empty) i = x := fun i x hx => by simp [List.getD_eq_getElem?_getD, hx]
      refine set_of_list0 (knd := strKind X.prog X.w) (fun i => ss.getD i Str.empty) (I1.ok.hd hc) pl.isList (fun i v hv => ?_) (by rw [List.size_toArray, hlen]; unfold scanBound; omega) (Pst := fun h' => h'.SetOf (strKind X.prog X.w) s1.heap.objs.size _ _) (fun h' z => z) (stop hlen hl hval hQ)
      obtain ⟨x, h1, h2⟩ := vals_at rv (by simpa using hv)
      obtain ⟨t, rfl⟩ := h2
      have hv' : ss.getD i Str.empty = x := hval i x h1
      rw [hv']
      exact ⟨strKind_is _ _ _ _, rfl⟩
    · obtain ⟨its, rv, pl, hz⟩ := I1.list (.of hh : SqL X.K H1 l _)
      have hlen : its.length = is.length := by rw [← rv.length, List.length_map]
      have hval : ∀ (i : Nat) x, is[i]? = some x → (fun i => is.getD i 0) i = x := fun i x hx => by simp [List.getD_eq_getElem?_getD, hx]
      refine set_of_list0 (knd := intKind X.prog X.w) (fun i => is.getD i 0) (I1.ok.hd hc) pl.isList (fun i v hv => ?_) (by rw [List.size_toArray, hlen]; unfold scanBound; omega) (Pst := fun h' => h'.SetOf (intKind X.prog X.w) s1.heap.objs.size _ _) (fun h' z => z) (stop hlen hl hval hQ)
      obtain ⟨x, h1, h2⟩ := vals_at rv (by simpa using hv)
      obtain ⟨t, rfl⟩ := h2
      have hv' : is.getD i 0 = x := hval i x h1
      rw [hv']
      exact ⟨intKind_is _ _ _ _, rfl⟩
end
end VS

set_option Elab.async false
set_option linter.all false
set_option maxRecDepth 100000
set_option maxHeartbeats 4000000
namespace VS
open PySem PySem.Spec PyProof.Rows L2

structure ClsOk (K : PySem.W.Frag) (C : Addr) : Prop where
  cl : Cls K C
  ha : PySem.W.findIn K (.ref C) "__class__" = some (some (.builtin "object.__class__"))
  hn : PySem.W.specialIn K (.builtin "object.__class__") "__get__" = some (some (.builtin "getset_descriptor.__get__"))
  tk : PySem.W.takesIn K (.builtin "object.__class__") = some true
  mr : PySem.W.mroIn K C (.type "object") = some true
structure CalC (P : Program) (w : World) (G : Gx) (mg : Str → Option Value) (base : Heap) (x : Str) (k n : Nat) (t : Nat) (m : Mir) : Prop where
  ex : ∃ (f : Addr) (fd : FuncData) (ps : List Str), mg x = some (.ref (G.cls t)) ∧ Mk G.K (G.cls t) f ∧ Binds G.K fd ps [] ∧ FnOk P w G.K mg base CX0 k f fd ps (spV G n m)
def sMake (t nf n : Nat) (m : Mir) (a : SA) : SE := fun ρ => match a ρ with
  | some (xs, ρ1) => if xs.length + 1 = n then match m (.slf t [] :: xs.map .val) with
    | some (.non, out) => if out.length = nf then some (.ins t out, ρ1) else none
    | _ => none
    else none
  | none => none
section
variable {c : Ctx} {X : Cx}
theorem Ok.keepX {F H F' H' : Hp} {σ : L2.St} {ρ : Rho} {p : Addr} (I : Ok c F H σ ρ) (k : Keep c.G.T [p] F H F' H') (h0 : c.H0 p = none) (nl : ∀ o, H p = some o → ¬ LamL o) (ap : ∀ (j : Nat) (s : Sl) (q : Addr), ρ[j]? = some s → s.mut = true → σ[j]? = some (some (V.ref q)) → q ≠ p) : Ok c F' H' σ ρ :=
  I.kept k (fun q h => by rw [List.mem_singleton.mp h]; exact h0) (fun q h => by rw [List.mem_singleton.mp h]; exact nl) fun j s q h1 h2 h3 z => ap j s q h1 h2 h3 (List.mem_singleton.mp z)
theorem Ok.sealO {F H : Hp} {σ : L2.St} {ρ : Rho} {p : Addr} {u : HO} (I : Ok c F H σ ρ) (hp : H p = some u) (nt : ∀ ps, u ≠ .tbl ps) (nl : ¬ LamL u) (hF : F p = none) (h0 : c.H0 p = none) (ap : ∀ (j : Nat) (s : Sl) (q : Addr), ρ[j]? = some s → s.mut = true → σ[j]? = some (some (V.ref q)) → q ≠ p) : Ok c (upd F p u) H σ ρ := by
  have ex : Ext F (upd F p u) := Ext.upd hF
  refine ⟨I.len, I.f0.trans ex, fun q v e => ?_, I.fr, I.al, fun q v e1 e2 => ?_, fun i s hs => ?_, I.ap, I.hb, I.tb.seal hp nt⟩
  · by_cases z : q = p
    · subst z; rw [upd_same] at e; cases e; exact hp
    · rw [upd_ne z] at e; exact I.fh q v e
  · have z : q ≠ p := fun z => by subst z; rw [h0] at e1; cases e1
    rw [upd_ne z]; exact I.n0 q v e1 e2
  obtain ⟨ov, h1, h2⟩ := I.sl i s hs
  refine ⟨ov, h1, ?_⟩
  cases s with
  | no => cases ov <;> trivial
  | val d =>
    cases ov with
    | none => exact h2
    | some v => exact Rep.ext ex h2
  | lam g0 =>
    cases ov with
    | none => exact h2
    | some v => exact (let ⟨f1, z1, z2⟩ := h2; ⟨f1, z1, z2.move ex fun q0 u0 e1 e2 => ⟨e1, fun e3 => by rw [upd_ne (fun z => by subst z; rw [hp] at e1; cases e1; exact nl e2)]; exact e3⟩⟩)
  | own xs =>
    cases ov with
    | none => exact h2
    | some v =>
      obtain ⟨q, e, a1, a2, vs, a3, a4⟩ := h2
      exact ⟨q, e, a1, by rw [upd_ne (ap i _ q hs rfl (by rw [h1, e]))]; exact a2, vs, a3, a4.ext ex⟩
  | bor xs =>
    cases ov with
    | none => exact h2
    | some v =>
      obtain ⟨q, e, a1, a2, vs, a3, a4⟩ := h2
      exact ⟨q, e, a1, by rw [upd_ne (ap i _ q hs rfl (by rw [h1, e]))]; exact a2, vs, a3, a4.ext ex⟩
  | slf k fs =>
    cases ov with
    | none => exact h2
    | some v =>
      obtain ⟨q, e, a1, a2, dx, vs, a3, a4, a5⟩ := h2
      exact ⟨q, e, a1, by rw [upd_ne (ap i _ q hs rfl (by rw [h1, e]))]; exact a2, dx, vs, a3, a4, a5.ext ex⟩
  | dic b k fs =>
    cases ov with
    | none => exact h2
    | some v =>
      obtain ⟨q, e, a1, a2, vs, a3, a5⟩ := h2
      exact ⟨q, e, a1, by rw [upd_ne (ap i _ q hs rfl (by rw [h1, e]))]; exact a2, vs, DicAt.ext ex (fun _ z => z) a3, a5.ext ex⟩
theorem ve_make {x : Str} {p pos : Pos} {e : Expr} {es : List Expr} {k n t nf : Nat} {m : Mir} {sa : SA} (C : CalC X.prog X.w c.G X.mg X.base x k n t m) (hnf : (c.G.fld t).length = nf) (hK : X.K = c.G.K) (hr : Room (k + 1) X.A) (ha : PA X (e :: es) (va c sa)) (hg : Gl X x := by rfl) (hdb : (x == ("__debug__" : Str)) = false := by decide)
    (he : starEach (e :: es) X.env = (false, eval e X.env) :: starEach es X.env := by rfl) (hpl : (backTo pos (starEach es X.env)).any (·.1) = false := by rfl) : PE X (.Call (.Name x p) (e :: es) [] pos) (vt c (sMake t nf n m sa)) := by
  obtain ⟨f, fd, ps, hm, hk, hb, hF⟩ := C.ex
  rw [← hK] at hk hb hF
  refine pe_of (pe_make hk hF hr hg hm hb .nil pass0 ha hdb he hpl) fun σ H Q ⟨F, ρ, I, d, ρ', e, q⟩ => ?_
  unfold sMake at e
  split at e
  · rename_i xs ρ1 e1
    split at e
    · rename_i hn
      split at e
      · rename_i out e2
        split at e
        · rename_i hl
          cases e
          refine ⟨F, ρ, I, xs, ρ', e1, fun us H1 F1 x1 I1 r1 => ?_⟩
          intro a dx ha' hdx hne
          rw [List.append_nil]
          have G1 : Grow F1 H1 F1 (upd H1 dx (.own a)) := Grow.raw I1.fh hdx
          have ha2 : upd H1 dx (.own a) a = none := by rw [upd_ne hne.symm]; exact ha'
          have G2 := G1.trans (Grow.raw (o := .ins (c.G.cls t) dx []) G1.fh ha2)
          have hFa : F1 a = none := ext_none I1.fh ha'
          refine ⟨F1, [a], _, G2.fh, (I1.grow G2).tb, .slf hFa upd_same r1, by simpa using hn, .non, out, e2, fun v H2 F2 k2 o2 r2 => ?_⟩
          cases r2
          refine ⟨rfl, ?_⟩
          obtain ⟨z1, dx', fs, z2, ⟨nn, z3⟩, z4⟩ := o2 a (List.mem_singleton.mpr rfl)
          have I2 := (I1.grow G2).keepX k2 (I1.no_H0 ha') (fun o e => by rw [upd_same] at e; cases e; exact nl_ins) (I1.no_slot ha')
          have I3 := I2.sealO z2 nt_ins nl_ins z1 (I1.no_H0 ha') (I1.no_slot ha')
          have ex := Ext.upd (o := .ins (c.G.cls t) dx' fs) z1
          refine q _ H2 _ ((x1.trans k2.f).trans ex) I3 (.ins upd_same ?_ (z4.ext ex))
          have l1 := z4.length
          rw [List.length_map] at l1
          have l2 := congrArg List.length z3
          rw [List.length_map, List.length_take] at l2
          rw [z3, List.take_of_length_le (by omega)]
        · cases e
      · cases e
    · cases e
  · cases e
def kSelf (t j : Nat) (e : SE) : SS := fun ρ => match e ρ with
  | some (d, ρ1) => match (ρ1[0]? : Option Sl) with
    | some (.slf t' fs) => if t' = t ∧ fs.length = j then some (.nx, ρ1.set 0 (.slf t (fs ++ [d]))) else none
    | _ => none
  | none => none
theorem putF_new {f : Str} {v : V} : ∀ {fs : List (Str × V)}, f ∉ fs.map (·.1) → putF f v fs = fs ++ [(f, v)]
  | [], _ => rfl
  | (g, x) :: r, h => by
    simp only [List.map_cons, List.mem_cons, not_or] at h
    show (if g = f then _ else _) = _
    rw [if_neg (Ne.symm h.1), putF_new h.2]
    rfl
theorem look_take {f : Str} : ∀ {l : List Str} {j : Nat}, look f l = some j → f ∉ l.take j ∧ l.take (j + 1) = l.take j ++ [f] ∧ j < l.length
  | [], j, h => by simp [look] at h
  | g :: r, j, h => by
    unfold look at h
    by_cases e : f = g
    · rw [if_pos e] at h; cases h; subst e; simp
    · rw [if_neg e] at h
      cases e2 : look f r with
      | none => rw [e2] at h; cases h
      | some i =>
        rw [e2] at h; cases h
        obtain ⟨h1, h2, h3⟩ := look_take e2
        refine ⟨by simp [e, h1], ?_, by simp; omega⟩
        simp only [List.take_succ_cons, List.cons_append]
        rw [h2]
theorem vs_self {e o : Expr} {f : Str} {s : SE} {pos pos' : Pos} (t j : Nat) (ho : PE X o (tVar 0)) (he : PE X e (vt c s)) (cl : Cls X.K (c.G.cls t)) (nf : NoAttr X.K (c.G.cls t) f) (hj : look f (c.G.fld t) = some j) (few : j < 1000 := by decide)
    (hs : swapsWith e (some (.Attribute o f pos')) pos.line X.env = pure false := by rfl) : PS X (.Assign [.Attribute o f pos'] e pos) (vs c (kSelf t j s)) :=
  ps_of (ps_fld ho he hs) fun σ H E ⟨F, ρ, I, fl, ρ', e, q⟩ => by
    unfold kSelf at e
    split at e
    · rename_i d ρ1 e1
      split at e
      · rename_i t' fs e2
        split at e
        · rename_i hh
          cases e
          obtain ⟨rfl, hl⟩ := hh
          refine ⟨F, ρ, I, d, ρ1, e1, fun v H1 F1 x1 I1 r1 => ?_⟩
          obtain ⟨ov, h1, h2⟩ := I1.sl 0 _ e2
          cases ov with
          | none => exact h2.elim
          | some w =>
            obtain ⟨p, ep, hB, hF, dx, us, hp, ⟨n, hn⟩, r⟩ := h2
            subst ep
            have l1 := r.length
            rw [List.length_map] at l1
            have l2 := congrArg List.length hn
            rw [List.length_map, List.length_take] at l2
            obtain ⟨g1, g2, g3⟩ := look_take hj
            have names : us.map (·.1) = (c.G.fld t').take j := by
              by_cases z : n ≤ (c.G.fld t').length
              · rw [hn, show n = j by omega]
              · omega
            refine ⟨_, h1, p, c.G.cls t', dx, us, rfl, hp, cl, nf, by omega, ?_⟩
            rw [putF_new (by rw [names]; exact g1)]
            refine q _ _ F1 x1 ?_
            -- self has one field more
            have keep : Keep c.G.T [p] F1 H1 F1 (upd H1 p (.ins (c.G.cls t') dx (us ++ [(f, v)]))) := by
              refine ⟨Ext.rfl', fun a o e => ?_, fun a o e n _ => ?_, fun a o e => ?_, fun a o _ n => n, fun tb => ⟨tabs_upd tb.t hp nt_ins nc_ins, tb.n⟩⟩
              · have : a ≠ p := fun z => by subst z; rw [hF] at e; cases e
                rw [upd_ne this]; exact I1.fh a o e
              · have : a ≠ p := fun z => n (by rw [z]; exact List.mem_singleton.mpr rfl)
                rw [upd_ne this]; exact e
              · by_cases z : a = p
                · subst z; exact ⟨_, upd_same⟩
                · exact ⟨o, by rw [upd_ne z]; exact e⟩
            have l0 : 0 < ρ1.length := (List.getElem?_eq_some_iff.mp e2).1
            refine ⟨by rw [List.length_set]; exact I1.len, I1.f0, keep.fh, fun a o z1 z2 z3 => keep.h a o (I1.fr a o z1 z2 z3) (fun z => z2 (by rw [List.mem_singleton.mp z]; exact hB)) z3, fun a o z1 => ?_, I1.n0, fun i s hs => ?_, fun a b s t pa qb ha hb ms mt hpa hqb e => ?_, I1.hb, keep.t I1.tb⟩
            · obtain ⟨o', z⟩ := I1.al a o z1
              exact keep.a a o' z
            · by_cases hi : i = 0
              · subst hi
                rw [List.getElem?_set_self l0] at hs
                cases hs
                refine ⟨_, h1, p, rfl, hB, hF, dx, _, upd_same, ⟨j + 1, ?_⟩, ?_⟩
                · rw [List.map_append, names, g2]; rfl
                · rw [List.map_append]; exact r.append (.one r1)
              · rw [List.getElem?_set_ne (Ne.symm hi)] at hs
                obtain ⟨ov, k1, k2⟩ := I1.sl i s hs
                refine ⟨ov, k1, ?_⟩
                have ne : ∀ q, s.mut = true → ov = some (V.ref q) → q ≠ p := fun q hm e z => hi (I1.ap i 0 _ _ q p hs e2 hm rfl (by rw [k1, e]) h1 z)
                cases s with
                | no => cases ov <;> trivial
                | val d => cases ov <;> exact k2
                | lam g0 =>
                  cases ov with
                  | none => exact k2
                  | some v => exact let ⟨f1, z1, z2⟩ := k2; ⟨f1, z1, z2.move Ext.rfl' fun q0 u0 e1 e2 => ⟨by rw [upd_ne (fun z => by subst z; rw [hp] at e1; cases e1; exact nl_ins e2)]; exact e1, id⟩⟩
                | own xs =>
                  cases ov with
                  | none => exact k2
                  | some v =>
                    obtain ⟨q, e, a1, a2, vs, a3, a4⟩ := k2
                    exact ⟨q, e, a1, a2, vs, by rw [upd_ne (ne q rfl (by rw [e]))]; exact a3, a4⟩
                | bor xs =>
                  cases ov with
                  | none => exact k2
                  | some v =>
                    obtain ⟨q, e, a1, a2, vs, a3, a4⟩ := k2
                    exact ⟨q, e, a1, a2, vs, by rw [upd_ne (ne q rfl (by rw [e]))]; exact a3, a4⟩
                | slf z xs =>
                  cases ov with
                  | none => exact k2
                  | some v =>
                    obtain ⟨q, e, a1, a2, dx, fs, a3, a4, a5⟩ := k2
                    exact ⟨q, e, a1, a2, dx, fs, by rw [upd_ne (ne q rfl (by rw [e]))]; exact a3, a4, a5⟩
                | dic z zs xs =>
                  cases ov with
                  | none => exact k2
                  | some v =>
                    obtain ⟨q, e, a1, a2, vs, a3, a5⟩ := k2
                    exact ⟨q, e, a1, a2, vs, DicAt.ext Ext.rfl' (fun o' z => by rw [upd_ne (ne q rfl (by rw [e]))]; exact z) a3, a5⟩
            · have mu : ∀ (i : Nat) (s : Sl), (ρ1.set 0 (.slf t' (fs ++ [d])))[i]? = some s → s.mut = true → ∃ s', ρ1[i]? = some s' ∧ s'.mut = true := fun i s hs hm => by
                by_cases hi : i = 0
                · subst hi; exact ⟨_, e2, rfl⟩
                · rw [List.getElem?_set_ne (Ne.symm hi)] at hs; exact ⟨s, hs, hm⟩
              obtain ⟨s', z1, z2⟩ := mu a s ha ms
              obtain ⟨t2, z3, z4⟩ := mu b t hb mt
              exact I1.ap a b s' t2 pa qb z1 z3 z2 z4 hpa hqb e
        · cases e
      · cases e
    · cases e

def gIsTy (T : Nat) : G1
  | .non => some (.bl false)
  | .bl _ => some (.bl (T == 0 || T == 1))
  | .int _ => some (.bl (T == 1))
  | .str _ => some (.bl (T == 2))
  | .lst _ => some (.bl (T == 3))
  | .tup _ => some (.bl (T == 4))
  | _ => none
def tyName : Nat → String
  | 0 => "bool" | 1 => "int" | 2 => "str" | 3 => "list" | _ => "tuple"
theorem isTy_rule (T : Nat) (hT : T < 5) {F H : Hp} {x : V} {d r : D} (e : Ext F H) (h : Rep c.G F x d) (hg : gIsTy T d = some r) : ∃ t b, TyX X.K H x t ∧ PySem.W.kitOne X.K t (.type (tyName T)) = some b ∧ r = .bl b := by
  have k : ∀ (a : String) (b : Bool), kitB a (tyName T) = some b → PySem.W.kitOne X.K (.type a) (.type (tyName T)) = some b := fun a b z => kit_ty z
  unfold gIsTy at hg
  split at hg
  · cases hg; cases h
    exact ⟨_, false, .base .non, k _ _ (by match T, hT with | 0, _ => decide +kernel | 1, _ => decide +kernel | 2, _ => decide +kernel | 3, _ => decide +kernel | 4, _ => decide +kernel), rfl⟩
  · cases hg; cases h
    exact ⟨_, _, .base (.bl _), k _ _ (by match T, hT with | 0, _ => decide +kernel | 1, _ => decide +kernel | 2, _ => decide +kernel | 3, _ => decide +kernel | 4, _ => decide +kernel), rfl⟩
  · cases hg; cases h
    exact ⟨_, _, .base (.int _), k _ _ (by match T, hT with | 0, _ => decide +kernel | 1, _ => decide +kernel | 2, _ => decide +kernel | 3, _ => decide +kernel | 4, _ => decide +kernel), rfl⟩
  · cases hg; cases h
    exact ⟨_, _, .base (.str _), k _ _ (by match T, hT with | 0, _ => decide +kernel | 1, _ => decide +kernel | 2, _ => decide +kernel | 3, _ => decide +kernel | 4, _ => decide +kernel), rfl⟩
  · cases hg
    cases h with
    | lst h1 _ => exact ⟨_, _, .base (.lst (e _ _ h1)), k _ _ (by match T, hT with | 0, _ => decide +kernel | 1, _ => decide +kernel | 2, _ => decide +kernel | 3, _ => decide +kernel | 4, _ => decide +kernel), rfl⟩
  · cases hg
    cases h with
    | tup h1 _ => exact ⟨_, _, .base (.tup (e _ _ h1)), k _ _ (by match T, hT with | 0, _ => decide +kernel | 1, _ => decide +kernel | 2, _ => decide +kernel | 3, _ => decide +kernel | 4, _ => decide +kernel), rfl⟩
  · cases hg
end

def spLaw (G : Gx) : Sp := fun vs H Q _ => ∃ (a : Addr) (ns : List Int), vs = [.ref a] ∧ SqL G.K H a (ns.map V.int) ∧ ns.length ≤ 63 ∧ LamX.Tabs G.T H ∧ ∀ H', Q (.bl true) H'
def noTab (H : Hp) : Hp := fun a => match H a with
  | some (.tbl _) => none
  | o => o
theorem noTab_ext {H : Hp} : Ext (noTab H) H := fun a o e => by
  unfold noTab at e
  split at e
  · cases e
  · exact e
theorem noTab_of {H : Hp} {a : Addr} {o : HO} (h : H a = some o) (n : ∀ ps, o ≠ .tbl ps) : noTab H a = some o := by
  unfold noTab
  rw [h]
  split
  · rename_i z; cases z; exact absurd rfl (n _)
  · rfl
theorem sqL_noTab {K : PySem.W.Frag} {H : Hp} {a : Addr} {xs : List V} (h : SqL K H a xs) : SqL K (noTab H) a xs := by
  rcases h with (h | ⟨o, h⟩) | h
  · exact .inl (.inl (noTab_of h nt_lst))
  · exact .inl (.inr ⟨o, noTab_of h (fun _ z => by cases z)⟩)
  · exact .inr h
theorem noTab_tb {T : List (Addr × Str)} {H : Hp} (t : LamX.Tabs T H) : TbOk T (noTab H) H := ⟨t, fun p hp => by
  obtain ⟨ps, e, _⟩ := t p hp
  unfold noTab
  rw [e]⟩
end VS

set_option Elab.async false
set_option linter.all false
set_option maxRecDepth 100000
set_option maxHeartbeats 4000000
namespace VS
open PySem PySem.Spec PyProof.Rows L2

section
variable {prog : Program} {w : World} {A : Around} {E : Value → Shared → Prop} {s : Shared}
end
end VS

set_option Elab.async false
set_option linter.all false
set_option maxRecDepth 100000
set_option maxHeartbeats 4000000
namespace VS
open PySem PySem.Spec PyProof.Rows L2
section
variable {prog : Program} {w : World} {A : Around} {E : Value → Shared → Prop} {s : Shared}
end
end VS

set_option Elab.async false
set_option linter.all false
set_option maxRecDepth 100000
set_option maxHeartbeats 4000000
namespace VS
open PySem PySem.Spec PyProof.Rows L2
section
variable {c : Ctx} {X : Cx}
end
end VS

set_option Elab.async false
set_option linter.all false
set_option maxRecDepth 100000
set_option maxHeartbeats 4000000
namespace VS
open PySem PySem.Spec PyProof.Rows L2
theorem ve_glob {c : Ctx} {X : Cx} {x : Str} {d : Str} {p : Pos} (h : ∃ u, X.mg x = some u ∧ RelV (.str d) u) (hg : Gl X x := by rfl) (hd : (x == ("__debug__" : Str)) = false := by decide) : PE X (.Name x p) (vt c (sK (.str d))) := by
  obtain ⟨u, h1, h2⟩ := h
  exact ve_k (pe_glob hg h1 h2 hd) fun _ => .str d
def chars (x : Str) : List D := x.cps.toList.map fun c => .str ⟨#[c]⟩
def iStr (a : SE) : SI := fun ρ => match a ρ with
  | some (.str x, ρ') => some (chars x, ρ')
  | _ => none
theorem yields_str {G : Gx} {F0 : Hp} (x : Str) : Yields G (Its x) F0 (chars x) := by
  intro F H e1 e2
  refine ⟨fun i d hd => ?_, by show x.cps.size ≤ _; simp [chars]⟩
  unfold chars at hd
  rw [List.getElem?_map, Array.getElem?_toList] at hd
  cases e : x.cps[i]? with
  | none => rw [e] at hd; cases hd
  | some ch =>
    rw [e] at hd; cases hd
    refine ⟨(Array.getElem?_eq_some_iff.mp e).1, fun v H' y => ?_⟩
    obtain ⟨rfl, ch', h1, rfl⟩ := y
    rw [e] at h1; cases h1
    exact ⟨F, .refl e2, .str _⟩
theorem vi_str {c : Ctx} {X : Cx} {tg e : Expr} {a : SE} (h : PE X e (vt c a)) : PI X tg e (vi c (iStr a)) := pi_of (pi_str h) fun σ H R ⟨F, ρ, I, ds, ρ', e, q⟩ => by
  unfold iStr at e
  split at e
  · rename_i x ρ1 e1
    cases e
    refine ⟨F, ρ, I, _, ρ', e1, fun v H1 F1 x1 I1 r1 => ?_⟩
    cases r1
    exact ⟨_, rfl, q _ _ F1 x1 I1 (yields_str _)⟩
  · cases e
theorem bt_len : bootBuiltins "len" = some (.builtin "len") := by decide +kernel
theorem bt_max : bootBuiltins "max" = some (.builtin "max") := by decide +kernel
theorem bt_sorted : bootBuiltins "sorted" = some (.builtin "sorted") := by decide +kernel
theorem bt_int : bootBuiltins "int" = some (.type "int") := by decide +kernel
theorem bt_str : bootBuiltins "str" = some (.type "str") := by decide +kernel
theorem bt_list : bootBuiltins "list" = some (.type "list") := by decide +kernel
theorem bt_tuple : bootBuiltins "tuple" = some (.type "tuple") := by decide +kernel
theorem bt_ty0 : bootBuiltins "bool" = some (.type (tyName 0)) := by decide +kernel
theorem bt_ty1 : bootBuiltins "int" = some (.type (tyName 1)) := by decide +kernel
theorem bt_ty2 : bootBuiltins "str" = some (.type (tyName 2)) := by decide +kernel
theorem bt_ty3 : bootBuiltins "list" = some (.type (tyName 3)) := by decide +kernel
theorem bt_ty4 : bootBuiltins "tuple" = some (.type (tyName 4)) := by decide +kernel
end VS

set_option Elab.async false
set_option linter.all false
set_option maxRecDepth 100000
set_option maxHeartbeats 4000000
namespace VS
open PySem PySem.Spec PyProof.Rows L2
def gEqL : G2
  | .lst xs, .lst [] => some (.bl xs.isEmpty)
  | _, _ => none
theorem op_eqLen {X : Cx} (hu : X.A.units + 64 < cLine) : OpR X (compareOp .Eq) (fun x y H Q => ∃ a b xs ys, x = .ref a ∧ y = .ref b ∧ SqL X.K H a xs ∧ SqL X.K H b ys ∧ xs.length ≠ ys.length ∧ Q (.bl false) H) := by
  intro pins s σ H x y v u Q I rx ry h
  obtain ⟨a, b, xs, ys, rfl, rfl, hx, hy, hne, q⟩ := h
  cases rx
  cases ry
  obtain ⟨its, rv, p, _⟩ := I.list hx
  obtain ⟨its2, rv2, p2, _⟩ := I.list hy
  have l1 := rv.length
  have l2 := rv2.length
  refine SeqAt.eq_list_lengthsAt p.isList p2.isList ?_ (by omega) ⟨.bl false, H, I, rfl, q⟩
  simp
  omega
theorem od_eqL {c : Ctx} {X : Cx} (hu : X.A.units + 64 < cLine) : OpD c X (compareOp .Eq) gEqL := opr_of ((op_eqLen hu).or (op_eqD hu)) fun x y H Q ⟨F, a, b, d, e, ra, rb, hg, q⟩ => by
  unfold gEqL at hg
  split at hg
  · rename_i xs
    cases hg
    cases ra with
    | lst h1 r1 =>
      cases rb with
      | lst h2 r2 =>
        cases r2
        cases r1 with
        | nil => exact .inr ⟨.list [], .list [], (Rep.lst (G := c.G) h1 .nil).dp (x := .list []) e rfl, (Rep.lst (G := c.G) h2 .nil).dp (x := .list []) e rfl, by decide, by decide, q.here e (.bl _)⟩
        | cons r r' => exact .inl ⟨_, _, _, _, rfl, rfl, .of (e _ _ h1), .of (e _ _ h2), by simp, q.here e (.bl _)⟩
  · cases hg
end VS

set_option Elab.async false
set_option linter.all false
set_option maxRecDepth 100000
set_option maxHeartbeats 4000000
namespace VS
open PySem PySem.Spec PyProof.Rows L2
section
variable {c : Ctx} {X : Cx}
end
end VS

set_option Elab.async false
set_option linter.all false
set_option maxRecDepth 100000
set_option maxHeartbeats 4000000
namespace VS
open PySem PySem.Spec PyProof.Rows L2
theorem adjust_rev (n : Nat) : Builtin.Slice.sliceAdjust none none (-1) (n : Int) = ((n : Int) - 1, -1) := rfl
theorem places_rev (n : Nat) : Builtin.Slice.slicePlaces ((n : Int) - 1) (-1) (-1) = n := by
  unfold Builtin.Slice.slicePlaces
  have h0 : ¬ ((-1 : Int) > 0) := by decide
  have h1 : (- -1 : Int) = 1 := by decide
  simp only [h0, if_false, h1, Int.ediv_one]
  split <;> omega
theorem fm_congr {α β : Type} {f g : α → Option β} : ∀ {l : List α}, (∀ x ∈ l, f x = g x) → l.filterMap f = l.filterMap g
  | [], _ => rfl
  | a :: l, h => by
    rw [List.filterMap_cons, List.filterMap_cons, h a List.mem_cons_self, fm_congr fun x hx => h x (List.mem_cons_of_mem _ hx)]
theorem pick_rev (xs : Array Value) : ((List.range xs.size).filterMap fun (k : Nat) => xs[((xs.size : Int) - 1 + (k : Int) * (-1)).toNat]?).toArray = xs.toList.reverse.toArray := by
  have e : ((List.range xs.size).filterMap fun (k : Nat) => xs[((xs.size : Int) - 1 + (k : Int) * (-1)).toNat]?) = (((List.range xs.size).map fun k => xs.size - 1 - k).filterMap (xs[·]?)) := by
    rw [List.filterMap_map]
    have : ∀ k ∈ List.range xs.size, xs[((xs.size : Int) - 1 + (k : Int) * (-1)).toNat]? = ((fun x => xs[x]?) ∘ fun k => xs.size - 1 - k) k := fun k hk => by
      have hk' := List.mem_range.mp hk
      show xs[((xs.size : Int) - 1 + (k : Int) * (-1)).toNat]? = xs[xs.size - 1 - k]?
      rw [show ((xs.size : Int) - 1 + (k : Int) * (-1)).toNat = xs.size - 1 - k by omega]
    exact fm_congr this
  rw [e, PySem.W.krv_range, List.filterMap_reverse, PySem.W.krv_all]
section
variable {prog : Program} {w : World} {A : Around} {E : Value → Shared → Prop} {s : Shared}
theorem sliceApplied_rev {sl : Addr} {vl vu vs : Value} {n : Nat} {Q : Int × Int × Nat → Shared → Prop} (hs : s.heap.IsSliceOf sl vl vu vs) (pl : IsPart vl none) (pu : IsPart vu none) (ps : IsPart vs (some (-1)))
    (h : Q ((n : Int) - 1, -1, n) s) : wpAny (model prog w) A (Builtin.Slice.sliceApplied (.ref sl) (pure (n : Int))) Q E s := by
  obtain ⟨os, hos, hcs, hds⟩ := id hs
  unfold Builtin.Slice.sliceApplied Builtin.Slice.sliceFields
  refine wpAny_bind (wpAny_bind (wpAny_field hos hds (x := vl) rfl (wpAny_bind (wpAny_field hos hds (x := vu) rfl (wpAny_bind (wpAny_field hos hds (x := vs) rfl (wpAny_pure ?_)))))))
  refine wpAny_bind (HT.slicePart_ ps ?_)
  show wpAny _ _ (if ((-1 : Int) == 0) = true then _ else _) _ _ s
  rw [if_neg (by decide)]
  refine wpAny_bind (HT.slicePart_ pl (wpAny_bind (HT.slicePart_ pu (wpAny_bind (wpAny_pure ?_)))))
  show wpAny _ _ (match Builtin.Slice.sliceAdjust none none (-1) (n : Int) with | (lo, hi) => pure (lo, (-1 : Int), Builtin.Slice.slicePlaces lo hi (-1))) _ _ s
  rw [adjust_rev n]
  show wpAny _ _ (pure ((n : Int) - 1, (-1 : Int), Builtin.Slice.slicePlaces ((n : Int) - 1) (-1) (-1))) _ _ s
  rw [places_rev]
  exact wpAny_pure h
theorem getItem_tuple_rev {t sl : Addr} {items : Array Value} {vl vu vs : Value} {Q : Value → Shared → Prop} (ht : IsTup s.heap t items) (hs : s.heap.IsSliceOf sl vl vu vs) (pl : IsPart vl none) (pu : IsPart vu none) (ps : IsPart vs (some (-1)))
    (h : Q (.ref s.heap.objs.size) { s with heap := s.heap.push { cls := .type "tuple", data := .seq items.toList.reverse.toArray } })
    (hsz : items.size ≤ sizeLine) : wpAny (model prog w) A (getItem (.ref t) (.ref sl)) Q E s := by
  have htake : sizeOk (.seq items.toList.reverse.toArray) := by
    show items.toList.reverse.toArray.size ≤ sizeLine
    rw [List.size_toArray, List.length_reverse, Array.length_toList]
    exact hsz
  obtain ⟨os, hos, hcs, hds⟩ := id hs
  have hTs : s.TypeIs (.ref sl) "slice" := ⟨os, hos, hcs⟩
  unfold getItem
  try with_reducible refine wpAny_holding ?_
  first | refine wpAny_bind (wpAny_pure ?_) | skip
  refine wpAny_bind (wpAny_sequenceKey ht.typeIs (by decide) ?_)
  refine wpAny_bind (wpAny_callSpecial?_slot (name := Str.ofString "__getitem__") ht.typeIs PyProof.Rows.slot_tuple_getitem
    (wpAny_call_entry PyProof.Rows.slot_tuple_getitem ht.typeIs PyProof.Rows.entry_tuple_getitem ?_ (PyProof.Rows.args_tuple_getitem _ _)))
  show wpAny _ _ (Builtin.Tuple.tupleItemsOf (.ref t) >>= _) _ _ s
  refine wpAny_bind (PyProof.Rows.tupleItemsOf_ ht ?_)
  refine wpAny_bind (wpAny_typeOf hTs ?_)
  rw [if_pos (by decide)]
  refine wpAny_bind (sliceApplied_rev hs pl pu ps ?_)
  have hno : ¬ ((((items.size : Int) - 1) == 0 && (-1 : Int) == 1 && items.size == items.size) = true) := by
    intro q
    rw [Bool.and_eq_true, Bool.and_eq_true] at q
    have q2 : (-1 : Int) = 1 := eq_of_beq q.1.2
    omega
  show wpAny _ _ (if (((items.size : Int) - 1) == 0 && (-1 : Int) == 1 && items.size == items.size) = true then _ else _) _ _ s
  rw [if_neg hno, pick_rev]
  first
    | exact wpAny_bind (m := Builtin.Tuple.tupleExact _) (wpAny_newObj_type (wpAny_pure ⟨_, rfl, wpAny_pure h⟩) htake)
    | exact wpAny_bind (m := Builtin.Tuple.tupleExact _) (wpAny_newObj_type (wpAny_bind (wpAny_pure (wpAny_pure ⟨_, rfl, wpAny_pure h⟩))) htake)
    | exact wpAny_bind (wpAny_bind (m := Builtin.Tuple.tupleExact _) (wpAny_newObj_type (wpAny_pure (wpAny_pure ⟨_, rfl, wpAny_pure h⟩)) htake))
    | exact wpAny_bind (wpAny_bind (m := Builtin.Tuple.tupleExact _) (wpAny_newObj_type (wpAny_pure ⟨_, rfl, wpAny_pure h⟩) htake))
end
section
variable {X : Cx} {te : TE}
def tRevA (K : PySem.W.Frag) (te : TE) : TE := fun σ H Q => te σ H fun x H1 => (∃ a xs, x = .ref a ∧ SqL K H1 a xs ∧ ∀ p, H1 p = none → Q (.ref p) (upd H1 p (.lst xs.reverse))) ∨ (∃ a xs, x = .ref a ∧ SqT K H1 a xs ∧ ∀ p, H1 p = none → Q (.ref p) (upd H1 p (.tup xs.reverse)))
theorem pe_revA {e : Expr} {k : Nat} {p1 p2 p3 pos : Pos} (he : PE X e te) : PE X (.Subscript e (.Slice none none (some (.UnaryOp .USub (.Constant (.int 1) k p1) p2)) p3) pos) (tRevA X.K te) := by
  refine ⟨fun pins s σ H Q I h => ?_⟩
  refine Subscript_ (thn (he.run pins s σ H _ I h) fun v s1 ⟨x, H1, I1, r1, q1⟩ => ?_)
  have hst : PO X (some (.UnaryOp .USub (.Constant (.int 1) k p1) p2)) (tPart (tUn (rU fun i => .int (-i)) (tC (.int 1)))) := po_some (pe_un un_neg pe_int)
  refine wpAny_Slice (thn (po_none.run pins s1 σ H1 (fun o H2 => o = none ∧ H2 = H1) I1 ⟨rfl, rfl⟩) fun vl s2 ⟨l, H2, I2, pl, el, e2⟩ => ?_)
  subst el e2
  refine thn (po_none.run pins s2 σ H2 (fun o H3 => o = none ∧ H3 = H2) I2 ⟨rfl, rfl⟩) fun vu s3 ⟨u, H3, I3, pu, eu, e3⟩ => ?_
  subst eu e3
  refine thn (hst.run pins s3 σ H3 (fun o H4 => o = some (-1) ∧ H4 = H3) I3 ⟨1, rfl, -1, rfl, rfl, rfl⟩) fun vs s4 ⟨o, H4, I4, ps, eo, e4⟩ => ?_
  subst eo e4
  have I5 : Inv X pins σ H4 { s4 with heap := s4.heap.push { cls := .type "slice", data := .fields #[vl, vu, vs] } } := I4.kept (t' := s4.toks) fun b ob q => Heap.get?_push_of_some _ q
  rcases q1 with ⟨a, xs, ex, hx, q⟩ | ⟨a, xs, ex, hx, q⟩
  · subst ex
    cases r1
    obtain ⟨its, r, ht, hz⟩ := I5.list hx
    have hlen := r.length
    show wpAny (model X.prog X.w) X.A (subscriptTail e (.Slice none none (some (.UnaryOp .USub (.Constant (.int 1) k p1) p2)) p3) (.ref a) (.ref s4.heap.objs.size)) (EP X pins σ Q) X.xe { s4 with heap := s4.heap.push { cls := .type "slice", data := .fields #[vl, vu, vs] } }
    refine tail_any (ops := [.ref a, .ref s4.heap.objs.size]) ht.isList.typeIs (PySem.slot_list_getitem.lookup) ?_ (by with_unfolding_all rfl)
    refine wpAny_getItem_list_slice ht.isList (Heap.IsSliceOf.new _ vl vu vs) pl pu ps (by decide) ?_ (by rw [List.size_toArray]; omega)
    rw [PySem.W.krv_pick]
    refine ⟨.ref _, _, I5.laid (t' := s4.toks) (o := .lst xs.reverse) (fun b ob q => Heap.get?_push_of_some _ q) (Nat.le_refl _) ?_, rfl, q _ (I5.hok.fresh (Nat.le_refl _))⟩
    exact ⟨by rw [List.length_reverse]; exact hz, _, 0, r.reverse, Heap.get?_push_size _ rfl⟩
  · subst ex
    cases r1
    obtain ⟨its, r, ht, hz⟩ := I5.tuple hx
    have hlen := r.length
    show wpAny (model X.prog X.w) X.A (subscriptTail e (.Slice none none (some (.UnaryOp .USub (.Constant (.int 1) k p1) p2)) p3) (.ref a) (.ref s4.heap.objs.size)) (EP X pins σ Q) X.xe { s4 with heap := s4.heap.push { cls := .type "slice", data := .fields #[vl, vu, vs] } }
    refine tail_any (ops := [.ref a, .ref s4.heap.objs.size]) ht.typeIs (PyProof.Rows.slot_tuple_getitem.lookup) ?_ (by with_unfolding_all rfl)
    refine getItem_tuple_rev ht (Heap.IsSliceOf.new _ vl vu vs) pl pu ps ?_ (by rw [List.size_toArray]; omega)
    refine ⟨.ref _, _, I5.laid (t' := s4.toks) (o := .tup xs.reverse) (fun b ob q => Heap.get?_push_of_some _ q) (Nat.le_refl _) ?_, rfl, q _ (I5.hok.fresh (Nat.le_refl _))⟩
    exact ⟨by rw [List.length_reverse]; exact hz, _, r.reverse, IsTup.new _ _⟩
end
theorem Reps.reverse {G : Gx} {F : Hp} : ∀ {vs : List V} {ds : List D}, Reps G F vs ds → Reps G F vs.reverse ds.reverse
  | _, _, .nil => .nil
  | _, _, .cons h r => by
    rw [List.reverse_cons, List.reverse_cons]
    exact (Reps.reverse r).append (.one h)
def gRev : G1
  | .lst xs => some (.lst xs.reverse)
  | .tup xs => some (.tup xs.reverse)
  | _ => none
section
variable {c : Ctx} {X : Cx}
theorem ve_rev {a : Expr} {sa : SE} {k : Nat} {p1 p2 p3 pos : Pos} (ha : PE X a (vt c sa)) : PE X (.Subscript a (.Slice none none (some (.UnaryOp .USub (.Constant (.int 1) k p1) p2)) p3) pos) (vt c (s1 gRev sa)) := by
  refine pe_of (pe_revA ha) fun σ H Q ⟨F, ρ, I, d, ρ', e, q⟩ => ?_
  unfold s1 at e
  split at e
  · rename_i x ρ1 e1
    split at e
    · rename_i d' e4
      cases e
      refine ⟨F, ρ, I, x, ρ', e1, fun v H1 F1 x1 I1 r1 => ?_⟩
      have q' : Aft c.G F1 H1 d Q := fun v H' F' g r => q v H' F' (x1.trans g.f) (I1.grow g) r
      unfold gRev at e4
      split at e4
      · cases e4
        cases r1 with
        | lst h1 rs => exact .inl ⟨_, _, rfl, .of (I1.fh _ _ h1), fun p hp => q'.newL I1.fh rs.reverse p hp⟩
      · cases e4
        cases r1 with
        | tup h1 rs => exact .inr ⟨_, _, rfl, .of (I1.fh _ _ h1), fun p hp => q'.newT I1.fh rs.reverse p hp⟩
      · cases e4
    · cases e
  · cases e
end
end VS

set_option Elab.async false
set_option linter.all false
set_option maxRecDepth 100000
set_option maxHeartbeats 4000000
namespace VS
open PySem PySem.Spec PyProof.Rows L2
end VS

set_option Elab.async false
set_option linter.all false
set_option maxRecDepth 100000
set_option maxHeartbeats 4000000
namespace VS
open PySem PySem.Spec PyProof.Rows L2
structure FnG (P : Program) (w : World) (K : PySem.W.Frag) (mg : Str → Option Value) (base : Heap) (k : Nat) (f : Addr) (fd : FuncData) (ps : List Str) (sp : Sp) : Prop where
  len : ∀ vs H Q E, sp vs H Q E → vs.length = ps.length
  run : ∀ (A : Around) (outer : List Env) (s : Shared) (H : Hp) (args : Args) (us : List Value) (vs : List V) (Q : VK) (E : XK), A.guards = some [] → Room k A → Env0 P w K mg base A outer s H → BindsTo s fd args (ps.zip us) → Vals vs us → sp vs H Q E →
    codeAny (model P w) A (.call (.ref f) args) (CR CX0 outer P w H s Q E) s
theorem fnG_of {P : Program} {w : World} {G : Gx} {mg : Str → Option Value} {base : Heap} {x qual : Str} {st : Stmt} {f : Addr} {fd : FuncData} {N ps : List Str} {k : Nat} {sp : Sp} (F : Fun G.K x qual st f fd) (S : FnScope N ps (defScope st)) (len : ∀ vs H Q E, sp vs H Q E → vs.length = ps.length)
    (hb : ∀ (cdv : Value) (A : Around) (outer : List Env) (s : Shared) (H : Hp) (vs : List V) (Q : VK) (E : XK), (A.deeper (envOfC qual (defScope st) s.heap.objs.size f cdv)).guards = some [] → Room k (A.deeper (envOfC qual (defScope st) s.heap.objs.size f cdv)) → sp vs H Q E →
      ∃ t, PSs (cxOf CX0 P w G.K mg base N qual (defScope st) f cdv A outer s H E).nox (defBody st) t ∧ t { nx := fun _ H' => Q .non H', rt := Q } (L2.start N vs) H) : FnG P w G.K mg base (k + 1) f fd ps sp := by
  obtain ⟨oc, od, kV, doc, pm, an, cdv, ct, osl, rfl, lk, hcd⟩ := F.ex
  refine ⟨len, fun A outer s H args us vs Q E hg hr e0 bd r hsp => ?_⟩
  have hl := len _ _ _ _ hsp
  have up : ∀ b o, base.get? b = some o → s.heap.get? b = some o := fun b o e => (e0.bs b o e).1
  have KX : G.K.In s.heap := e0.mod.kin.keeps up
  have kinds : ∀ y ∈ ps.zip us, (defScope st).names.lookup y.1 = some .local ∨ ((defScope st).names.lookup y.1 = some .cell ∧ ((cellsFrom (s.heap.objs.size + 1) (defScope st).names []).lookup y.1).isSome = true) := fun y hy =>
    (S.par y.1 (List.of_mem_zip hy).1).elim .inl fun q => .inr ⟨q, PySem.W.cellsFrom_some _ _ _ (.inl q)⟩
  refine codeAny_call_function hr.depth (KX _ _ lk) rfl S.co S.gen rfl (PySem.W.codeRec_of KX hcd) (bd _ _ _ _ (wpAny_newFunctionEnv_cells S.kind kinds fun env he s1 x => ?_))
  subst he
  refine ⟨(e0.mod.nolimit.keeps up).keeps x.toInCall.keep, codeAny_func ?_⟩
  obtain ⟨t, ht, hq⟩ := hb cdv A outer s H vs Q E hg (hr.deeper _) hsp
  have I : Inv (cxOf CX0 P w G.K mg base N qual (defScope st) f cdv A outer s H E) [] (L2.start N vs) H s1 := inv_start S hr.hd e0 hl r x
  refine wpAny_mono (ht.nox.run [] s1 (L2.start N vs) H _ I hq) (fun fl s' hs => ?_) fun e s' hs => hs
  have fin : ∀ {σ' : L2.St} {H' : Hp} {v : V} {u : Value}, Inv (cxOf CX0 P w G.K mg base N qual (defScope st) f cdv A outer s H E) [] σ' H' s' → RelV v u → Q v H' → CE outer P w H s Q u s' := fun {σ' H' v u} J rv q => ⟨v, H', J.os, J.bare, J.base, J.hok, rv, q⟩
  match fl, hs with
  | .ret u, hs =>
    obtain ⟨v, σ', H', J, rv, q⟩ := hs
    exact fin J rv q
  | .next, hs =>
    obtain ⟨σ', H', J, q⟩ := hs
    exact fin (v := V.non) (u := Value.none) J rfl q
  | .brk, hs => exact hs.elim fun _ z => z.elim fun _ z => z.2.elim
  | .cont, hs => exact hs.elim fun _ z => z.elim fun _ z => z.2.elim
section
variable {X : Cx} {k : Nat} {f : Addr} {fd : FuncData} {ps : List Str} {sp : Sp} {x : Str} {p pos : Pos} {e : Expr} {es : List Expr} {t : TA}
theorem run_fnG {pins : List (Addr × Obj)} {σ : L2.St} {H : Hp} {s : Shared} {Q : VK} {us : List Value} {vs : List V} (F : FnG X.prog X.w X.K X.mg X.base k f fd ps sp) (hg : X.A.guards = some []) (hr : Room k X.A) (hb : Binds X.K fd ps []) (I : Inv X pins σ H s) (r : Vals vs us) (h : sp vs H Q E0) :
    wpAny (model X.prog X.w) X.A (call (.ref f) us) (EP X pins σ Q) X.xe s := by
  have hl : (us ++ []).length = ps.length := by rw [List.append_nil, ← r.length]; exact F.len _ _ _ _ h
  have b := hb s us I.kIn hl
  rw [List.append_nil] at b
  refine wpAny_call (codeAny_mono (F.run X.A X.stack s H ⟨us, []⟩ us vs Q E0 hg hr I.env0 b r h) fun r s' hq => ?_)
  match r, hq with
  | .error e, hq => exact hq.elim
  | .ok (.ret u), hq => exact I.after hq
  | .ok .next, hq => exact False.elim hq
  | .ok .brk, hq => exact False.elim hq
  | .ok .cont, hq => exact False.elim hq
theorem pe_callG (F : FnG X.prog X.w X.K X.mg X.base k f fd ps sp) (hgd : X.A.guards = some []) (hr : Room k X.A) (hg : Gl X x) (hm : X.mg x = some (.ref f)) (hk : PySem.W.keepIn X.K (.ref f) = true) (hb : Binds X.K fd ps [])
    (ha : PA X (e :: es) t) (hdb : (x == ("__debug__" : Str)) = false := by decide) (he : starEach (e :: es) X.env = (false, eval e X.env) :: starEach es X.env := by rfl) (hpl : (backTo pos (starEach es X.env)).any (·.1) = false := by rfl) :
    PE X (.Call (.Name x p) (e :: es) [] pos) (tCall sp [] E0 t) := by
  refine ⟨fun pins s σ H Q I h => ?_⟩
  refine wpAny_Call_Name_kw (ld_glob I hg hm ?_ hdb)
  refine PySem.W.callWith_K (h₀ := X.base) I.ok.mod.kin hk (thn (ha.run pos pins s σ H _ I h) fun us s1 ⟨vs, H1, I1, r, q⟩ => ⟨I1.kIn, ?_⟩) he hpl
  refine run_fnG F hgd hr hb I1 r ?_
  have q' : sp (vs ++ []) H1 Q E0 := q
  rw [List.append_nil] at q'
  exact q'
end
section
variable {c : Ctx} {X : Cx} {x : Str} {p pos : Pos} {e : Expr} {es : List Expr} {k n : Nat} {m : Mir}
end
end VS

set_option Elab.async false
set_option linter.all false
set_option maxRecDepth 100000
set_option maxHeartbeats 4000000
namespace VS
open PySem PySem.Spec PyProof.Rows L2
section
variable {c : Ctx} {X : Cx} {x : Str} {p pos : Pos} {e e2 : Expr} {i : Nat} {sa : SA}
theorem LamAt.fn {G : Gx} {F H : Hp} {f : Addr} {h : D → D → Option D} (l : LamAt G F H f h) {pins : List (Addr × Obj)} {σ : L2.St} {s : Shared} (I : Inv X pins σ H s) : PySem.W.FnAt f s.heap := by
  obtain ⟨L, l1, ⟨oc, od, fd, sl, hm⟩, _⟩ := l
  obtain ⟨k1, _, _⟩ := l1 _ hm
  obtain ⟨k2, _⟩ := I.hok _ _ k1
  exact ⟨oc, od, fd, sl, k2⟩
end
end VS

set_option Elab.async false
set_option linter.all false
set_option maxRecDepth 100000
set_option maxHeartbeats 4000000
namespace VS
open PySem PySem.Spec PyProof.Rows L2 NdefX
def rmA (cs : List Addr) (H : Hp) : Hp := fun b => if b ∈ cs then none else H b
section
variable {P : Program} {w : World} {cs : List Addr} {H H0 H1 : Hp} {h h1 : Heap}
end
section
variable {G : Gx} {F0 : Hp} {f : Addr} {N : List Str} {p1 p2 : Str} {fr : List Str} {q : Str} {params : Arguments} {body : Expr} {scope : Scope} {cl : List (Str × Addr)} {c' : Addr} {pm ctv : Value} {k : Nat} {sb : SE} {ds : List D} {vs : List V} {hp0 : Heap}
end
end VS

set_option Elab.async false
set_option linter.all false
set_option maxRecDepth 100000
set_option maxHeartbeats 4000000
namespace VS
open PySem PySem.Spec PyProof.Rows L2 NdefX
section
variable {X : Cx} {pins : List (Addr × Obj)} {σ : L2.St} {H : Hp} {s : Shared}
end
section
variable {c : Ctx} {X : Cx} {x : Str} {e : Expr} {sa sb : SE} {m : Mir} {k n : Nat} {js : List Nat} {N fr : List Str} {p1 p2 : Str} {params : Arguments} {body : Expr} {scope : Scope} {lpos p pos : Pos} {cd P : Addr}
end
end VS

set_option Elab.async false
set_option linter.all false
set_option maxRecDepth 100000
set_option maxHeartbeats 4000000
namespace VS
open PySem PySem.Spec PyProof.Rows L2
mutual
def keyD : D → Option NestedKey
  | .non => some .none
  | .int i => some (.num i)
  | .str x => some (.text x)
  | .tup ds => match keyDs ds with
    | some ks => some (.tup ks)
    | none => none
  | _ => none
def keyDs : List D → Option (List NestedKey)
  | [] => some []
  | d :: ds => match keyD d, keyDs ds with
    | some k, some ks => some (k :: ks)
    | _, _ => none
end
mutual
theorem Rep.key {G : Gx} {F : Hp} : ∀ {v : V} {d : D} {k : NestedKey}, Rep G F v d → keyD d = some k → KV1 F v k
  | _, _, _, .non, h => by unfold keyD at h; cases h; exact .non
  | _, _, _, .bl b, h => by unfold keyD at h; cases h
  | _, _, _, .int i, h => by unfold keyD at h; cases h; exact .int i
  | _, _, _, .str x, h => by unfold keyD at h; cases h; exact .str x
  | _, _, _, .adr a, h => by unfold keyD at h; cases h
  | _, _, _, .lst _ _, h => by unfold keyD at h; cases h
  | _, _, _, .scr _ _, h => by unfold keyD at h; cases h
  | _, _, _, .tup (ds := ds) h1 r, h => by
    unfold keyD at h
    cases e : keyDs ds with
    | none => rw [e] at h; cases h
    | some ks => rw [e] at h; cases h; exact .tup h1 (Reps.keys r e)
  | _, _, _, .ins _ _ _, h => by unfold keyD at h; cases h
  | _, _, _, .dct _ _, h => by unfold keyD at h; cases h
  | _, _, _, .exc _ _ _, h => by unfold keyD at h; cases h
  | _, _, _, .bth _, h => by unfold keyD at h; cases h
theorem Reps.keys {G : Gx} {F : Hp} : ∀ {vs : List V} {ds : List D} {ks : List NestedKey}, Reps G F vs ds → keyDs ds = some ks → KV1s F vs ks
  | _, _, _, .nil, h => by unfold keyDs at h; cases h; exact .nil
  | _, _, _, .cons (d := d) (ds := ds) h1 r, h => by
    unfold keyDs at h
    cases e1 : keyD d with
    | none => rw [e1] at h; cases h
    | some k =>
      cases e2 : keyDs ds with
      | none => rw [e1, e2] at h; cases h
      | some ks => rw [e1, e2] at h; cases h; exact .cons (Rep.key h1 e1) (Reps.keys r e2)
end
mutual
theorem KV1.is {P : Program} {w : World} {F H : Hp} {h : Heap} (ok : HOk P w H h) (e : Ext F H) : ∀ {v : V} {k : NestedKey} {u : Value}, KV1 F v k → RelV v u → NestedIs h k u
  | _, _, u, .non, r => by
    obtain rfl : u = Value.none := r
    exact .none
  | _, _, u, .int i, r => by
    obtain ⟨t, rfl⟩ := r
    exact .int i t
  | _, _, u, .str x, r => by
    obtain ⟨t, rfl⟩ := r
    exact .text x t
  | _, _, u, .tup (a := a) (vs := vs) h1 r1, r => by
    obtain rfl : u = Value.ref a := r
    obtain ⟨_, its, rv, o, e1, e2, n, e3⟩ := ok a _ (e _ _ h1)
    exact .tup e1 e2 e3 (by simpa using KV1s.is ok e r1 rv)
theorem KV1s.is {P : Program} {w : World} {F H : Hp} {h : Heap} (ok : HOk P w H h) (e : Ext F H) : ∀ {vs : List V} {ks : List NestedKey} {us : List Value}, KV1s F vs ks → Vals vs us → NestedAll h ks us
  | _, _, _, .nil, r => by cases r; exact .nil
  | _, _, _, .cons h1 r1, r => by
    cases r with
    | cons a b => exact .cons (KV1.is ok e h1 a) (KV1s.is ok e r1 b)
end
theorem KV1.key {F : Hp} {v : V} {q : Key} (h : KV1 F v (nkOf q)) : v = kV q := by
  cases q with
  | inl i => generalize e : nkOf (.inl i) = k at h; cases h <;> cases e; rfl
  | inr x => generalize e : nkOf (.inr x) = k at h; cases h <;> cases e; rfl
theorem KV1.ref {F : Hp} {v : V} {ks : List NestedKey} (h : KV1 F v (.tup ks)) : ∃ a, v = .ref a := by
  cases h with
  | tup h1 r => exact ⟨_, rfl⟩
def lkN : List NestedKey → List D → NestedKey → Option D
  | a :: ks, d :: ds, k => if a = k then some d else lkN ks ds k
  | _, _, _ => none
def pkN (ks : List NestedKey) (k : NestedKey) : List NestedKey := if k ∈ ks then ks else ks ++ [k]
def mpN : List NestedKey → List D → NestedKey → D → List D
  | a :: ks, x :: ds, k, d => (if a = k then d else x) :: mpN ks ds k d
  | _, _, _, _ => []
def pvN (ks : List NestedKey) (ds : List D) (k : NestedKey) (d : D) : List D := if k ∈ ks then mpN ks ds k d else ds ++ [d]
section
variable {G : Gx} {F : Hp}
end
section
variable {X : Cx} {pins : List (Addr × Obj)} {σ : L2.St} {H : Hp} {s : Shared}
end
end VS

set_option Elab.async false
set_option linter.all false
set_option maxRecDepth 100000
set_option maxHeartbeats 4000000
namespace VS
open PySem PySem.Spec PyProof.Rows L2
section
variable {c : Ctx} {X : Cx}
end
end VS

set_option Elab.async false
set_option linter.all false
set_option maxRecDepth 100000
set_option maxHeartbeats 4000000
namespace VS
open PySem PySem.Spec PyProof.Rows L2
section
variable {P : Program} {w : World} {K : PySem.W.Frag} {tg : Expr} {d : Addr} {od : Obj} {es : Array DictEntry} {ep : Nat}
end
theorem Reps.at {G : Gx} {F : Hp} : ∀ {vs : List V} {ds : List D} {i : Nat} {v : V} {d : D}, Reps G F vs ds → vs[i]? = some v → ds[i]? = some d → Rep G F v d
  | _, _, _, _, _, .nil, h, _ => by simp at h
  | _, _, 0, _, _, .cons h _, e1, e2 => by
    rw [List.getElem?_cons_zero] at e1 e2
    cases e1; cases e2; exact h
  | _, _, i + 1, _, _, .cons _ r, e1, e2 => by
    rw [List.getElem?_cons_succ] at e1 e2
    exact Reps.at r e1 e2
theorem Vals.at {vs : List V} : ∀ {us : List Value} {i : Nat} {u : Value}, Vals vs us → us[i]? = some u → ∃ v, vs[i]? = some v ∧ L2.RelV v u := by
  induction vs with
  | nil => intro us i u h e; cases h; simp at e
  | cons v vs ih =>
    intro us i u h e
    cases h with
    | cons a b =>
      cases i with
      | zero => rw [List.getElem?_cons_zero] at e; cases e; exact ⟨v, rfl, a⟩
      | succ i => rw [List.getElem?_cons_succ] at e; exact ih b e
section
variable {X : Cx} {pins : List (Addr × Obj)} {σ : L2.St} {H : Hp} {s : Shared}
end
section
variable {c : Ctx} {X : Cx} {tg : Expr}
end
end VS

set_option Elab.async false
set_option linter.all false
set_option maxRecDepth 100000
set_option maxHeartbeats 4000000
namespace VS
open PySem PySem.Spec PyProof.Rows L2
section
variable {c : Ctx} {X : Cx}
end
section
variable {c : Ctx} {K : PySem.W.Frag}
end
section
variable {c : Ctx} {X : Cx}
end
end VS

set_option Elab.async false
set_option linter.all false
set_option maxRecDepth 100000
set_option maxHeartbeats 4000000
namespace VS
open PySem PySem.Spec PyProof.Rows L2
section
variable {X : Cx}
end
section
variable {c : Ctx} {K : PySem.W.Frag}
end
section
variable {c : Ctx} {X : Cx}
end
end VS

set_option Elab.async false
set_option linter.all false
set_option maxRecDepth 100000
set_option maxHeartbeats 4000000
namespace VS
open PySem PySem.Spec PyProof.Rows L2
section
variable {c : Ctx} {X : Cx}
end
end VS

set_option Elab.async false
set_option linter.all false
set_option maxRecDepth 100000
set_option maxHeartbeats 4000000
namespace VS
open PySem PySem.Spec PyProof.Rows L2
structure CalO (P : Program) (w : World) (G : Gx) (mg : Str → Option Value) (base : Heap) (t : Nat) (x : Str) (k n : Nat) (m : Mir) : Prop where
  ex : ∃ (f : Addr) (fd : FuncData) (ps : List Str), PySem.W.findIn G.K (.ref (G.cls t)) x = some (some (.ref f)) ∧ PySem.W.isFn G.K (.ref f) = true ∧ PySem.W.keepIn G.K (.ref f) = true ∧ Binds G.K fd ps [] ∧ FnOk P w G.K mg base CX0 k f fd ps (spV G n m)
def isI (t : Nat) : D → Bool
  | .ins t' _ => t' == t
  | _ => false
theorem isI_inv {t : Nat} {d : D} (h : isI t d = true) : ∃ fs, d = .ins t fs := by
  cases d with
  | ins t' fs =>
    have h : (t' == t) = true := h
    rw [beq_iff_eq] at h
    subst h
    exact ⟨fs, rfl⟩
  | _ => cases h
theorem Rep.ins_at {G : Gx} {F : Hp} {v : V} {t : Nat} {fs : List D} (r : Rep G F v (.ins t fs)) : ∃ a dx us, v = .ref a ∧ F a = some (.ins (G.cls t) dx us) ∧ us.map (·.1) = G.fld t ∧ Reps G F (us.map (·.2)) fs := by
  generalize z : D.ins t fs = d at r
  cases r with
  | ins h n rs => cases z; exact ⟨_, _, _, rfl, h, n, rs⟩
  | _ => cases z
section
variable {c : Ctx} {X : Cx}
theorem relA {a : Addr} : L2.RelV (V.ref a) (Value.ref a) := rfl
theorem inst_at {pins : List (Addr × Obj)} {σ : L2.St} {H : Hp} {s : Shared} (I : Inv X pins σ H s) {a dx C : Addr} {us : List (Str × V)} (h : H a = some (.ins C dx us)) : ∃ od, PySem.W.InstAt s.heap a (PySem.W.instObj C dx) C (some od) := by
  obtain ⟨mA, J, _⟩ := ins_get I.hok h
  obtain ⟨od, J, _⟩ := J.look
  exact ⟨od, J⟩
theorem run_at {A : Around} {k : Nat} {f : Addr} {fd : FuncData} {ps : List Str} {sp : Sp} {pins : List (Addr × Obj)} {σ : L2.St} {H : Hp} {s : Shared} {Q : VK} {us : List Value} {vs : List V} (F : FnOk X.prog X.w X.K X.mg X.base CX0 k f fd ps sp) (hr : Room k A) (hf : A.frames = X.A.frames) (hb : Binds X.K fd ps [])
    (I : Inv X pins σ H s) (r : Vals vs us) (h : sp vs H Q E0) : wpAny (model X.prog X.w) A (call (.ref f) us) (EP X pins σ Q) X.xe s := by
  have e0 : Env0 X.prog X.w X.K X.mg X.base A X.stack s H := by
    have e := I.env0
    exact ⟨by rw [hf]; exact e.frames, e.mod, e.bs, e.bsz, e.funs, e.frf, e.hok, e.bare⟩
  have hl : us.length = ps.length := by rw [← r.length]; exact F.len _ _ _ _ h
  have b := hb s us I.kIn (by rw [List.append_nil]; exact hl)
  rw [List.append_nil] at b
  refine wpAny_call (codeAny_mono (F.run A X.stack s H ⟨us, []⟩ us vs Q E0 hr e0 b r h) fun r s' hq => ?_)
  match r, hq with
  | .error e, hq => exact hq.elim
  | .ok .next, hq => exact False.elim hq
  | .ok .brk, hq => exact False.elim hq
  | .ok .cont, hq => exact False.elim hq
  | .ok (.ret u), hq => exact I.after hq
theorem sp_of {F H : Hp} {σ : L2.St} {ρ : Rho} {n : Nat} {m : Mir} {vs : List V} {ds : List D} {d : D} {out : List D} {Q : VK} (I : Ok c F H σ ρ) (r : Reps c.G F vs ds) (hn : ds.length = n) (hm : m (ds.map .val) = some (d, out))
    (q : ∀ v H' F', Ext F F' → Ok c F' H' σ ρ → Rep c.G F' v d → Q v H') : spV c.G n m vs H Q E0 :=
  ⟨F, [], ds.map .val, I.fh, I.tb, .vals r, by rw [List.length_map]; exact hn, d, out, hm, fun v H' F' kp _ rv => q v H' F' kp.f (keep_lift I kp) rv⟩
def rMt2 (G : Gx) (t : Nat) (m : Mir) : R2 := fun x y H Q => (∃ a dx us, x = .ref a ∧ H a = some (.ins (G.cls t) dx us)) ∧ (∃ a dx us, y = .ref a ∧ H a = some (.ins (G.cls t) dx us)) ∧ spV G 2 m [x, y] H Q E0
theorem cmpBack_of {Q : Value → Shared → Prop} {v : V} {u : Value} {s : Shared} (r : L2.RelV v u) (q : Q u s) : PySem.W.CmpBack Q u s := by
  cases u with
  | notImplemented => cases v <;> cases r <;> contradiction
  | _ => exact q
variable {k t : Nat} {m : Mir} {x : Str}
theorem op_mtC {op : CmpOp} (C : CalO X.prog X.w c.G X.mg X.base t x k 2 m) (hop : ∀ a b, compareOp op a b = richCompare op a b) (hx : (cmpInfo op).2.1 = x) (hK : X.K = c.G.K) (hr : Room k X.A) : OpR X (compareOp op) (rMt2 c.G t m) := by
  obtain ⟨f, fd, ps, h1, h2, h3, h4, h5⟩ := C.ex
  rw [← hK] at h1 h2 h4 h5
  intro pins s σ H x' y' v u Q I rx ry ⟨⟨a, dx, us, ea, ha⟩, ⟨b, dy, ws, eb, hb⟩, sp⟩
  subst ea; subst eb
  obtain rfl : v = Value.ref a := rx
  obtain rfl : u = Value.ref b := ry
  obtain ⟨od, J⟩ := inst_at I ha
  obtain ⟨od', J'⟩ := inst_at I hb
  obtain ⟨mm, hF⟩ := I.fr
  rw [hop]
  refine PySem.W.cmp_K hr.units0 hF I.ok.mod.kin J J'.type (by simp [PySem.W.notFirst]) (by rw [hx]; exact h1) h2 (wpAny_mono (run_at h5 hr rfl h4 I (.cons relA (.cons relA .nil)) sp) (fun w' s' z => ?_) fun _ _ z => z)
  obtain ⟨z', H', I', rz, qz⟩ := z
  exact cmpBack_of rz ⟨z', H', I', rz, qz⟩
def sMt2 (t : Nat) (m : Mir) (a b : SE) : SE := fun ρ => match a ρ with
  | some (x, ρ1) => match b ρ1 with
    | some (y, ρ2) => if isI t x = true ∧ isI t y = true then match m [.val x, .val y] with
      | some (d, _) => some (d, ρ2)
      | none => none
      else none
    | none => none
  | none => none
theorem mt2_w {sa sb : SE} (σ : L2.St) (H : Hp) (Q : VK) (h : vt c (sMt2 t m sa sb) σ H Q) : tOp (rMt2 c.G t m) (vt c sa) (vt c sb) σ H Q := by
  obtain ⟨F, ρ, I, d, ρ', e, q⟩ := h
  unfold sMt2 at e
  split at e
  · rename_i x ρ1 e1
    split at e
    · rename_i y ρ2 e2
      split at e
      · rename_i hi
        split at e
        · rename_i d' out e3
          cases e
          refine ⟨F, ρ, I, x, ρ1, e1, fun v H1 F1 x1 I1 r1 => ⟨F1, ρ1, I1, y, ρ', e2, fun u H2 F2 x2 I2 r2 => ?_⟩⟩
          obtain ⟨fs, ex⟩ := isI_inv hi.1
          obtain ⟨gs, ey⟩ := isI_inv hi.2
          have r1' := r1.ext x2
          have r2' := r2
          rw [ex] at r1'
          rw [ey] at r2'
          obtain ⟨a, dx, us, a1, a2, _⟩ := r1'.ins_at
          obtain ⟨b, dy, ws, b1, b2, _⟩ := r2'.ins_at
          exact ⟨⟨a, dx, us, a1, I2.fh _ _ a2⟩, ⟨b, dy, ws, b1, I2.fh _ _ b2⟩, sp_of I2 (ds := [x, y]) (.cons (r1.ext x2) (.cons r2 .nil)) rfl e3 fun v' H' F' x' I' r' => q v' H' F' ((x1.trans x2).trans x') I' r'⟩
        · cases e
      · cases e
    · cases e
  · cases e
variable {a b : Expr} {sa sb : SE} {pos : Pos}
theorem ve_mt2C {op : CmpOp} (C : CalO X.prog X.w c.G X.mg X.base t x k 2 m) (hop : ∀ a b, compareOp op a b = richCompare op a b) (hx : (cmpInfo op).2.1 = x) (hK : X.K = c.G.K) (hr : Room k X.A) (ha : PE X a (vt c sa)) (hb : PE X b (vt c sb)) (hm : behindInMarks op b = false := by first | exact nomark _ | rfl) :
    PE X (.Compare a [op] [b] pos) (vt c (sMt2 t m sa sb)) :=
  pe_of (pe_cmpR (op_mtC C hop hx hK hr) ha hb hm) fun _ _ _ h => mt2_w _ _ _ h
theorem Rep.bl_inv {G : Gx} {F : Hp} {v : V} {i : Bool} (h : Rep G F v (.bl i)) : v = .bl i := by cases h; rfl
def sMt1 (t : Nat) (m : Mir) (a : SE) : SE := fun ρ => match a ρ with
  | some (x, ρ1) => if isI t x = true then match m [.val x] with
    | some (d, _) => some (d, ρ1)
    | none => none
    else none
  | none => none
def rMt1 (G : Gx) (t : Nat) (m : Mir) : V → Hp → VK → Prop := fun x H Q => (∃ a dx us, x = .ref a ∧ H a = some (.ins (G.cls t) dx us)) ∧ spV G 1 m [x] H Q E0
theorem mt1_w {sa : SE} (σ : L2.St) (H : Hp) (Q : VK) (h : vt c (sMt1 t m sa) σ H Q) : vt c sa σ H fun x H1 => rMt1 c.G t m x H1 Q := by
  obtain ⟨F, ρ, I, d, ρ', e, q⟩ := h
  unfold sMt1 at e
  split at e
  · rename_i x ρ1 e1
    split at e
    · rename_i hi
      split at e
      · rename_i d' out e3
        cases e
        refine ⟨F, ρ, I, x, ρ', e1, fun v H1 F1 x1 I1 r1 => ?_⟩
        obtain ⟨fs, ex⟩ := isI_inv hi
        have r1' := r1
        rw [ex] at r1'
        obtain ⟨a, dx, us, a1, a2, _⟩ := r1'.ins_at
        exact ⟨⟨a, dx, us, a1, I1.fh _ _ a2⟩, sp_of I1 (ds := [x]) (.cons r1 .nil) rfl e3 fun v' H' F' x' I' r' => q v' H' F' (x1.trans x') I' r'⟩
      · cases e
    · cases e
  · cases e
structure CalP (P : Program) (w : World) (G : Gx) (mg : Str → Option Value) (base : Heap) (t : Nat) (x : Str) (k : Nat) (m : Mir) : Prop where
  ex : ∃ (p g : Addr) (fd : FuncData) (ps : List Str), PropOf G.K (G.cls t) x p g ∧ Binds G.K fd ps [] ∧ FnOk P w G.K mg base CX0 k g fd ps (spV G 1 m)
theorem ve_prop {e : Expr} {s : SE} (C : CalP X.prog X.w c.G X.mg X.base t x k m) (hK : X.K = c.G.K) (cl : Cls c.G.K (c.G.cls t)) (hr : Room (k + 1) X.A) (he : PE X e (vt c s)) (hab : attributeBase e x X.env (eval e X.env) = eval e X.env := by rfl) :
    PE X (.Attribute e x pos) (vt c (sMt1 t m s)) := by
  obtain ⟨p, g, fd, ps, h1, h4, h5⟩ := C.ex
  rw [← hK] at h1 h4 h5 cl
  refine pe_of (pe_prop (ds := []) (dvs := []) he cl h1 h5 hr h4 .nil pass0 hab) fun σ H Q h => ?_
  obtain ⟨F, ρ, I, d, ρ', e1, q⟩ := mt1_w σ H Q h
  refine ⟨F, ρ, I, d, ρ', e1, fun v H' F' x' J' r' => ?_⟩
  obtain ⟨⟨a, dx, us, ea, ha⟩, sp⟩ := q v H' F' x' J' r'
  subst ea
  exact ⟨a, dx, us, rfl, ha, sp⟩
end
end VS

set_option Elab.async false
set_option linter.all false
set_option maxRecDepth 100000
set_option maxHeartbeats 4000000
namespace VS
open PySem PySem.Spec PyProof.Rows L2
section
variable {prog : Program} {w : World} {A : Around} {E : Value → Shared → Prop} {s : Shared} {K : PySem.W.Frag} {x y C f : Addr} {ox : Obj} {od : Option Obj}
structure NeO (K : PySem.W.Frag) (C : Addr) : Prop where
  ne : PySem.W.findIn K (.ref C) "__ne__" = some (some (.builtin "object.__ne__"))
  ob : PySem.W.subIn K (.ref C) (.type "object") = some true
theorem ne_body {Q : Fin → Shared → Prop} (room : A.units < cLine) (X : K.In s.heap) (I : PySem.W.InstAt s.heap x ox C od) (hs : PySem.W.findIn K (.ref C) "__eq__" = some (some (.ref f))) (hf : PySem.W.isFn K (.ref f) = true)
    (h : wpAny (model prog w) A (call (.ref f) [.ref x, .ref y]) (fun v s' => ∃ b, v = .bool b ∧ Q (.done (.ret (.bool (!b)))) s') E s) :
    wpAny (model prog w) A (Builtin.«object.__ne__» ⟨[.ref x, .ref y], []⟩) Q E s := by
  unfold Builtin.«object.__ne__»
  have asked := PySem.W.ifBound_K (M := model prog w) (A := A) (E := E) (args := [.ref y]) (Q := fun r s' => ∃ b, r = some (.bool b) ∧ Q (.done (.ret (.bool (!b)))) s') X I hs hf (wpAny_mono h (fun v s' ⟨b, e, q⟩ => ⟨b, by rw [e], q⟩) fun _ _ z => z)
  repeat (first | with_reducible refine wpAny_cRoomFor room ?_ | (refine wpAny_bind (m := callSpecialIfBound? (.ref x) (Str.ofString "__eq__") [.ref y]) (wpAny_mono asked (fun r s' ⟨b, e, q⟩ => by subst e; (repeat (first | exact q | exact wpAny_pure q | (refine wpAny_bind (m := truthy (.bool _)) (wpAny_truthy_bool ?_)) | wp_step))) fun _ _ z => z)) | wp_step)
theorem ne_own {Q : Value → Shared → Prop} (room : A.units + 1 < cLine) (X : K.In s.heap) (I : PySem.W.InstAt s.heap x ox C od) {oy : Obj} {ody : Option Obj} (J : PySem.W.InstAt s.heap y oy C ody) (n : NeO K C) (hs : PySem.W.findIn K (.ref C) "__eq__" = some (some (.ref f))) (hf : PySem.W.isFn K (.ref f) = true)
    (h : wpAny (model prog w) A.in1 (call (.ref f) [.ref x, .ref y]) (fun v s' => ∃ b, v = .bool b ∧ Q (.bool (!b)) s') E s) :
    wpAny (model prog w) A (richCompare .NotEq (.ref x) (.ref y)) Q E s := by
  have S := F.cmp_object.ne
  have hi : PySem.W.Looks (model prog w) s.heap (isInstance (.ref x) (.type "object")) true := I.type.andThen (PySem.W.looks_subIn X n.ob)
  have body : wpAny (model prog w) A (call (.builtin "object.__ne__") [.ref x, .ref y]) (fun v s' => ∃ b, v = .bool b ∧ Q v s') E s :=
    wpAny_call (codeAny_call_builtin S.plain F.cmpEntry_ne (PySem.W.check_slot F.cmpKind_ne F.cmpSplit_ne hi (F.cmpArgs_ne _ _) (ne_body (A := A.in1) room X I hs hf (wpAny_mono h (fun v s' ⟨b, e, q⟩ => ⟨b, e, ⟨_, rfl, q⟩⟩) fun _ _ z => z))))
  have tried : wpAny (model prog w) A (tryCompare (.ref x) "__ne__" (.ref y)) (fun r s' => ∃ b, r = some (.bool b) ∧ Q (.bool b) s') E s := by
    unfold tryCompare callSpecialIfBound? bindSpecialIfBound?
    refine wpAny_bind (wpAny_holding (wpAny_bind (wpAny_bind (wpAny_bind (I.type.here ((PySem.W.looks_findIn X n.ne).here ?_))))))
    dsimp only
    simp only [S.bind]
    refine wpAny_bind (wpAny_askSetting (wpAny_ite ?_))
    have last : wpAny (model prog w) A (call (.builtin "object.__ne__") ([.ref x] ++ [.ref y]) >>= fun v => pure (some v)) (fun r s' => wpAny (model prog w) A (match r with | some .notImplemented | none => pure none | some v => pure (some v)) (fun r s' => ∃ b, r = some (.bool b) ∧ Q (.bool b) s') E s') E s :=
      wpAny_bind (wpAny_mono body (fun v s' ⟨b, e, q⟩ => by subst e; exact wpAny_pure (wpAny_pure ⟨b, rfl, q⟩)) fun _ _ z => z)
    split
    · exact wpAny_bind (wpAny_pure (wpAny_pure last))
    · exact wpAny_tryCatch (wpAny_bind (wpAny_pure (wpAny_pure last)))
  unfold richCompare
  simp only [oneThing_ref]
  refine wpAny_holding (wpAny_bind (wpAny_cRoomFor (Nat.lt_of_succ_lt room) (wpAny_bind (I.type.here (wpAny_bind (J.type.here ?_))))))
  simp only [bne_self_eq_false, Bool.false_eq_true, if_false]
  refine wpAny_bind (wpAny_pure ?_)
  simp only [Bool.false_eq_true, if_false]
  refine wpAny_bind (wpAny_mono tried (fun r s' ⟨b, e, q⟩ => ?_) fun _ _ z => z)
  subst e
  exact wpAny_pure q
end
def rNeO (G : Gx) (t : Nat) (m : Mir) : R2 := fun x y H Q => (∃ a dx us, x = .ref a ∧ H a = some (.ins (G.cls t) dx us)) ∧ (∃ a dx us, y = .ref a ∧ H a = some (.ins (G.cls t) dx us)) ∧ spV G 2 m [x, y] H (fun v H' => ∃ b, v = .bl b ∧ Q (.bl (!b)) H') E0
section
variable {c : Ctx} {X : Cx} {k t : Nat} {m : Mir}
theorem op_neO (C : CalO X.prog X.w c.G X.mg X.base t "__eq__" k 2 m) (n : NeO c.G.K (c.G.cls t)) (hK : X.K = c.G.K) (hr : Room (k + 1) X.A) : OpR X (compareOp .NotEq) (rNeO c.G t m) := by
  obtain ⟨f, fd, ps, h1, h2, h3, h4, h5⟩ := C.ex
  rw [← hK] at h1 h2 h4 h5 n
  intro pins s σ H x' y' v u Q I rx ry ⟨⟨a, dx, us, ea, ha⟩, ⟨b, dy, ws, eb, hb⟩, sp⟩
  subst ea; subst eb
  obtain rfl : v = Value.ref a := rx
  obtain rfl : u = Value.ref b := ry
  obtain ⟨od, J⟩ := inst_at I ha
  obtain ⟨od', J'⟩ := inst_at I hb
  have un := hr.units
  refine PySem.W.cmp_ofNotEq (ne_own (by omega) I.kIn J J' n h1 h2 (wpAny_mono (run_at h5 hr.in1 rfl h4 I (.cons relA (.cons relA .nil)) sp) (fun w' s' z => ?_) fun _ _ z => z))
  obtain ⟨z', H', I', rz, q, eq, qz⟩ := z
  subst eq
  cases rz
  exact ⟨q, rfl, .bl _, H', I', rfl, qz⟩
def sNeO (t : Nat) (m : Mir) (a b : SE) : SE := fun ρ => match sMt2 t m a b ρ with
  | some (.bl r, ρ') => some (.bl (!r), ρ')
  | _ => none
theorem neO_w {sa sb : SE} (σ : L2.St) (H : Hp) (Q : VK) (h : vt c (sNeO t m sa sb) σ H Q) : tOp (rNeO c.G t m) (vt c sa) (vt c sb) σ H Q := by
  obtain ⟨F, ρ, I, d, ρ', e, q⟩ := h
  unfold sNeO at e
  split at e
  · rename_i r ρ1 e1
    cases e
    exact mt2_w σ H (fun v H' => ∃ b, v = .bl b ∧ Q (.bl (!b)) H') ⟨F, ρ, I, _, ρ', e1, fun v H' F' x' J' r' => ⟨r, r'.bl_inv, q _ H' F' x' J' (.bl _)⟩⟩
  · cases e
theorem ve_neO {a b : Expr} {sa sb : SE} {pos : Pos} (C : CalO X.prog X.w c.G X.mg X.base t "__eq__" k 2 m) (n : NeO c.G.K (c.G.cls t)) (hK : X.K = c.G.K) (hr : Room (k + 1) X.A) (ha : PE X a (vt c sa)) (hb : PE X b (vt c sb)) (hm : behindInMarks .NotEq b = false := by first | exact nomark _ | rfl) :
    PE X (.Compare a [.NotEq] [b] pos) (vt c (sNeO t m sa sb)) :=
  pe_of (pe_cmpR (op_neO C n hK hr) ha hb hm) fun _ _ _ h => neO_w _ _ _ h
end
end VS

set_option Elab.async false
set_option linter.all false
set_option maxRecDepth 100000
set_option maxHeartbeats 4000000
namespace VS
open PySem PySem.Spec PyProof.Rows L2
theorem Keep.trans {T : List (Addr × Str)} {F H F1 H1 F2 H2 : Hp} (a : Keep T [] F H F1 H1) (b : Keep T [] F1 H1 F2 H2) : Keep T [] F H F2 H2 :=
  ⟨a.f.trans b.f, b.fh, fun p o h n nt => b.h p o (a.h p o h n nt) n nt, fun p o h => let ⟨o', e⟩ := a.a p o h; b.a p o' e, fun p o h n => let ⟨o', e⟩ := a.a p o h; b.n p o' e (a.n p o h n), fun t => b.t (a.t t)⟩
theorem Keep.same {T : List (Addr × Str)} {F H : Hp} (e : Ext F H) : Keep T [] F H F H := ⟨Ext.rfl', e, fun _ _ h _ _ => h, fun p o h => ⟨o, h⟩, fun _ _ _ n => n, id⟩
section
variable {c : Ctx} {X : Cx} {k t : Nat} {m : Mir}
end
end VS

set_option Elab.async false
set_option linter.all false
set_option maxRecDepth 100000
set_option maxHeartbeats 4000000
namespace VS
open PySem PySem.Spec PyProof.Rows L2
section
variable {c : Ctx} {X : Cx}
end
theorem bt_repr : bootBuiltins "repr" = some (.builtin "repr") := by decide +kernel
theorem hu100 {A : Around} {k : Nat} (hr : Room k A) : A.units + 100 < cLine := by have := hr.un; omega
theorem FnG.of {P : Program} {w : World} {K : PySem.W.Frag} {mg : Str → Option Value} {base : Heap} {k : Nat} {f : Addr} {fd : FuncData} {ps : List Str} {sp : Sp} (F : FnOk P w K mg base CX0 k f fd ps sp) : FnG P w K mg base k f fd ps sp :=
  ⟨F.len, fun A outer s H args us vs Q E _ hr e0 b r h => F.run A outer s H args us vs Q E hr e0 b r h⟩
def EndT (l : PySem.W.OpenLaw) (w : World) (K : PySem.W.Frag) (k : Nat) (x : Str) (mg : Str → Option Value) (fa : Addr) (xs : List Str) : Prop :=
  ∃ cs : List (Addr × Addr), (∀ p ∈ cs, ∃ x ∈ xs, PySem.W.tabIn K x = some p) ∧ (∀ p ∈ cs, K.lookup p.2 = none) ∧
  ∃ fd : FuncData, (∀ (s : Shared) (u : Value), BindsTo s fd ⟨[u], []⟩ [(x, u)]) ∧ ∀ base : Heap, K.In base → base.Ns mainGlobals mg → (∀ p ∈ cs, LamX.TabB base mg p.1 p.2) →
    ∃ G : Gx, G.K = K ∧ (∀ p ∈ G.T, p.1 ∈ cs.map (·.2)) ∧ FnG l.prog w K mg base k fa fd [x] (spLaw G)
theorem law_callT {P : Program} {w : World} {K : PySem.W.Frag} {mg mb : Str → Option Value} {k : Nat} {fa a : Addr} {cs : List (Addr × Addr)} {fd : FuncData} {x : Str} {s₁ : Shared} {us : List Value} {ns : List Int}
    (KX : K.In s₁.heap) (hns : s₁.heap.Ns mainGlobals mg) (hb : s₁.heap.Ns builtinsNs mb) (hbb : ∀ x : Str, x ≠ "__name__" → mb x = bootBuiltins x) (hlim : s₁.heap.NoLimit) (hg : s₁.gens = #[])
    (hT : ∀ p ∈ cs, s₁.heap.get? p.2 = some { cls := .none, data := .fields #[] }) (nT : ∀ p ∈ cs, K.lookup p.2 = none) (CH : ∀ p ∈ cs, PySem.W.CodeHd s₁.heap p.1 p.2)
    (hbm : ∃ (bm : Addr) (ob : Obj), mg "__builtins__" = some (.ref bm) ∧ bm ≠ builtinsNs ∧ s₁.heap.get? bm = some ob ∧ ob.cls = .type "module" ∧ ob.dict = some builtinsNs ∧ ob.data = .plain)
    (ha : s₁.heap.get? a = some { cls := .type "list", data := .seq us.toArray }) (hi : IntsAre us ns) (hl : ns.length ≤ 63) (hr : Room k callerA)
    (F : ∀ base : Heap, K.In base → base.Ns mainGlobals mg → (∀ p ∈ cs, LamX.TabB base mg p.1 p.2) → ∃ G : Gx, G.K = K ∧ (∀ p ∈ G.T, p.1 ∈ cs.map (·.2)) ∧ FnG P w K mg base k fa fd [x] (spLaw G)) (hbind : ∀ (s : Shared) (u : Value), BindsTo s fd ⟨[u], []⟩ [(x, u)]) :
    codeAny (model P w) callerA (.call (.ref fa) ⟨[.ref a], []⟩) (fun r s' => r = .ok (.ret (.bool true)) ∧ OldK s₁.heap s'.heap ∧ s'.os = s₁.os ∧ AllBare s'.gens) s₁ := by
  have rv := vals_ints hi
  have lenV := hi.length
  have ls : ns.length ≤ sizeLine := Nat.le_trans hl (by decide)
  generalize hts : cs.map (·.2) = ts
  have tsT : ∀ b, b ∈ ts → ∃ p ∈ cs, p.2 = b := fun b h => by rw [← hts] at h; obtain ⟨p, h1, h2⟩ := List.mem_map.mp h; exact ⟨p, h1, h2⟩
  have inT : ∀ p ∈ cs, p.2 ∈ ts := fun p h => by rw [← hts]; exact List.mem_map.mpr ⟨p, h, rfl⟩
  have isT : ∀ b, b ∈ ts → s₁.heap.get? b = some { cls := .none, data := .fields #[] } := fun b h => by obtain ⟨p, h1, h2⟩ := tsT b h; rw [← h2]; exact hT p h1
  have aT : a ∉ ts := fun z => by
    have q := isT a z
    rw [ha] at q
    have q' : Data.seq us.toArray _ = Data.fields #[] := congrArg Obj.data (Option.some.inj q)
    cases q'
  -- tracked: the tables, and the script's list where it is not of the written part
  have main : ∀ (tr : Bool), (tr = true → K.lookup a = none) → (tr = false → ∃ o, K.lookup a = some o ∧ o = { cls := .type "list", data := .seq us.toArray }) →
      codeAny (model P w) callerA (.call (.ref fa) ⟨[.ref a], []⟩) (fun r s' => r = .ok (.ret (.bool true)) ∧ OldK s₁.heap s'.heap ∧ s'.os = s₁.os ∧ AllBare s'.gens) s₁ := fun tr k1 k2 => by
    let lo : Obj := { cls := .type "list", data := .seq us.toArray }
    let H : Hp := fun b => if b ∈ ts then some (.tbl #[]) else if b = a ∧ tr = true then some (.frz lo (.lst (ns.map V.int))) else none
    have Ht : ∀ b, b ∈ ts → H b = some (.tbl #[]) := fun b h => if_pos h
    have Ha : tr = true → H a = some (.frz lo (.lst (ns.map V.int))) := fun h => (if_neg aT).trans (if_pos ⟨rfl, h⟩)
    have Hn : ∀ b, b ∉ ts → ¬ (b = a ∧ tr = true) → H b = none := fun b h1 h2 => (if_neg h1).trans (if_neg h2)
    have only : ∀ b, H b ≠ none → b ∈ ts ∨ (b = a ∧ tr = true) := fun b h => by
      by_cases z1 : b ∈ ts
      · exact .inl z1
      · by_cases z2 : b = a ∧ tr = true
        · exact .inr z2
        · exact absurd (Hn b z1 z2) h
    have hok : HOk P w H s₁.heap := fun b u e => by
      by_cases z1 : b ∈ ts
      · rw [Ht b z1] at e; cases e; exact isT b z1
      · by_cases z2 : b = a ∧ tr = true
        · rw [z2.1, Ha z2.2] at e
          cases e
          rw [z2.1]
          exact ⟨ha, by rw [List.length_map]; exact ls, us, _, rv, ha⟩
        · rw [Hn b z1 z2] at e; cases e
    have hS : SqL K H a (ns.map V.int) := by
      cases tr with
      | true => exact .inl (.inr ⟨lo, Ha rfl⟩)
      | false =>
        obtain ⟨o, q1, q2⟩ := k2 rfl
        subst q2
        exact .inr ⟨_, us.toArray, _, q1, rfl, rfl, rfl, by rw [List.size_toArray, lenV]; exact ls, by simpa using rv⟩
    have hid : ∀ {b : Addr} {o : Obj}, s₁.heap.get? b = some o → H b = none → (hidT s₁.heap H).get? b = some o := fun e n => hidT_get e n
    have free : ∀ {b : Addr} {o : Obj}, s₁.heap.get? b = some o → (∀ vs n, o.data ≠ .seq vs n) → o.data ≠ .fields #[] → H b = none := fun {b o} e h1 h2 => Classical.byContradiction fun q => by
      rcases only b q with z | ⟨z, _⟩
      · rw [isT b z] at e; cases e; exact h2 rfl
      · rw [z, ha] at e; cases e; exact h1 _ _ rfl
    have dict : ∀ {b : Addr} {o : Obj} {es : Array DictEntry} {ep : Nat}, s₁.heap.get? b = some o → o.data = .dict es ep → H b = none := fun e d => free e (fun vs n z => by rw [d] at z; cases z) fun z => by rw [d] at z; cases z
    have nsK : ∀ {b : Addr} {m : Str → Option Value}, s₁.heap.Ns b m → (hidT s₁.heap H).Ns b m := fun {b m} ⟨o, es, ep, e, d, r⟩ => ⟨o, es, ep, hid e (dict e d), d, r⟩
    have kb : K.In (hidT s₁.heap H) := fun b o e => hid (KX b o e) (Classical.byContradiction fun q => by
      rcases only b q with z | ⟨z1, z2⟩
      · obtain ⟨p, p1, p2⟩ := tsT b z
        rw [← p2, nT p p1] at e; cases e
      · rw [z1, k1 z2] at e; cases e)
    have md : Mod K mg (hidT s₁.heap H) := ⟨kb, nsK hns, ⟨mb, nsK hb, hbb⟩, let ⟨mc, h1, h2⟩ := hlim; ⟨mc, nsK h1, h2⟩⟩
    have TB : ∀ p ∈ cs, LamX.TabB (hidT s₁.heap H) mg p.1 p.2 := fun p hp => by
      have hTp := hT p hp
      obtain ⟨o, vs', file, tf, flags, tg, inF, text, tt, e1, r1, r2, r3, r4, r5, r6, r7, r8, hne⟩ := CH p hp
      obtain ⟨bm, ob, b1, b2, b3, b4, b5, b6⟩ := hbm
      have nG : bm ≠ mainGlobals := fun q => by
        obtain ⟨o, es, ep, e, hd, _⟩ := hns
        rw [q, e] at b3
        cases b3
        rw [hd] at b6
        cases b6
      have nP : bm ≠ p.2 := fun q => by
        rw [q, hTp] at b3
        cases b3
        cases b6
      refine ⟨⟨o, vs', file, tf, flags, tg, inF, text, tt, hid e1 (free e1 (fun vs n z => by rw [r2] at z; cases z) fun z => ?_), r1, r2, r3, r4, r5, r6, r7, r8, hne⟩, ⟨bm, ob, b1, b2, nG, nP, hid b3 (free b3 (fun vs n z => by rw [b6] at z; cases z) fun z => by rw [b6] at z; cases z), b4, b5, b6⟩, fun z => ?_⟩
      · rw [r2] at z; cases z; simp at r3
      · obtain ⟨o, es, ep, e, hd, _⟩ := hns
        rw [z, hTp] at e
        cases e
        cases hd
    have e0 : Env0 P w K mg (hidT s₁.heap H) callerA [] s₁ H := ⟨rfl, md, fun b o e => of_hidT e, Nat.le_of_eq (hidT_size _ _), trivial, fun b hb => absurd (show b ∈ ([] : List Addr) from hb) (by simp), hok, .of_eq hg⟩
    obtain ⟨G, GK, GT, FG⟩ := F _ kb (nsK hns) TB
    have tabs : LamX.Tabs G.T H := fun p hp => LamX.TabS.nil (Ht _ (by rw [← hts]; exact GT p hp))
    refine codeAny_mono (FG.run callerA [] s₁ H ⟨[.ref a], []⟩ [.ref a] [.ref a] (fun v _ => v = .bl true) (fun _ _ _ => False) rfl hr e0 (hbind s₁ (.ref a)) (.cons rfl .nil) ⟨a, ns, rfl, by rw [GK]; exact hS, hl, tabs, fun _ => rfl⟩) fun r s' h => ?_
    match r, h with
    | .error e, h => exact h.elim
    | .ok .next, h => exact False.elim h
    | .ok .brk, h => exact False.elim h
    | .ok .cont, h => exact False.elim h
    | .ok (.ret u), h =>
      obtain ⟨v, H', os, bare, un, hok', r', q⟩ := h
      have q' : v = .bl true := q
      subst q'
      obtain rfl : u = Value.bool true := r'
      have stays : ∀ b o, b ∉ ts → s₁.heap.get? b = some o → s'.heap.get? b = some o := fun b o nb e => by
        by_cases z : H b = none
        · exact un.keep b o e z (by intro z; exact absurd (show b ∈ ([] : List Addr) from z) (by simp)) (by simp)
        · rcases only b z with z | ⟨z1, z2⟩
          · exact absurd z nb
          · have h1 := Ha z2
            have h2 := un.frzs a lo _ h1
            obtain ⟨g1, _⟩ := hok' a _ h2
            rw [z1, ha] at e
            cases e
            rw [z1]
            exact g1
      have grown : ∀ b, b ∈ ts → ∃ more : Array Value, s'.heap.get? b = some { cls := .none, data := .fields more } := fun b hb => by
        obtain ⟨more, z⟩ := un.tbls b #[] (Ht b hb)
        exact ⟨_, hok' b _ z⟩
      refine ⟨rfl, ⟨fun b o e => ?_, fun b o e => ?_⟩, os, bare⟩
      · by_cases hb : b ∈ ts
        · obtain ⟨p, p1, p2⟩ := tsT b hb
          obtain ⟨more, hm⟩ := grown b hb
          rw [isT b hb] at e
          cases e
          have hcode := ((CH p p1).tab (hT p p1)).isCodeTable
          rw [p2] at hcode
          exact .inr (.inl ⟨hcode, rfl, #[], more, rfl, by rw [Array.empty_append]; exact hm⟩)
        · exact .inl (stays b o hb e)
      · by_cases hb : b ∈ ts
        · obtain ⟨more, hm⟩ := grown b hb; exact ⟨_, hm⟩
        · exact ⟨o, stays b o hb e⟩
  cases hk : K.lookup a with
  | none => exact main true (fun _ => hk) fun z => by cases z
  | some o =>
    have e := KX a o hk
    rw [ha] at e
    cases e
    exact main false (fun z => by cases z) fun _ => ⟨_, hk, rfl⟩
theorem walk_ofT {l : PySem.W.OpenLaw} {k : Nat} {q : Program} {loose : List Str} {XP : (Str → Option Value) → Heap → Prop} {YP : World → Heap → Prop} {d : DefRec} {K : Params → PySem.W.Frag} {x : Str} (xs : List Str)
    (hn : l.most = some 63) (hdf : d.params.defaults = []) (hr : Room k callerA) (hY : ∀ (w : World) (h : Heap), YP w h → (K w.params).In h) (hxs : (xs.all fun x => ((recsOf q).find? fun e => e.name == x).isSome) = true)
    (F : ∀ (w : World) (mg : Str → Option Value) (fa : Addr) (h : Heap), (K w.params).In h → h.Ns mainGlobals mg → mg d.name = some (.ref fa) → EndT l w (K w.params) k x mg fa xs) :
    PySem.W.WalkO q loose XP YP l.row.toRowW d [] (fun f vs => PySem.call f vs) := by
  refine Att.attach_call hn hdf fun w s₀ s₁ mg mb fa o pm cd doc a us ns G Y ho hd hcd hmg hobj hints hlen hg => ?_
  have KX := hY w _ Y
  obtain ⟨cs, hcs, nT, fd, hb, hF⟩ := F w mg fa _ KX G.T.g hmg
  have tb : ∀ p ∈ cs, PySem.W.CodeHd s₁.heap p.1 p.2 ∧ s₁.heap.get? p.2 = some (PySem.W.tabObj #[]) := fun p hp => by
    obtain ⟨x, hx, ht⟩ := hcs p hp
    obtain ⟨e, he⟩ := Option.isSome_iff_exists.mp (List.all_eq_true.mp hxs x hx)
    exact PySem.W.tab_of G.T KX he ht
  exact law_callT KX G.T.g G.T.b G.T.builtins G.T.nolimit hg (fun p hp => (tb p hp).2) nT (fun p hp => (tb p hp).1) G.T.bmain hobj hints hlen hr hF hb
end VS

set_option Elab.async false
set_option linter.all false
set_option maxRecDepth 100000
set_option maxHeartbeats 4000000
namespace VS
open PySem PySem.Spec PyProof.Rows L2
section
variable {c : Ctx} {X : Cx}
end
section
variable {c : Ctx} {X : Cx}
end
end VS

set_option Elab.async false
set_option linter.all false
set_option maxRecDepth 100000
set_option maxHeartbeats 4000000
namespace VS
open PySem PySem.Spec PyProof.Rows L2
section
variable {c : Ctx} {X : Cx}
end
end VS

set_option Elab.async false
set_option linter.all false
set_option maxRecDepth 100000
set_option maxHeartbeats 8000000
namespace VS
open PySem PySem.Spec PyProof.Rows L2
def sleB (a b : Str) : Bool := !decide (b.cps.toList < a.cps.toList)
theorem sle_trans {a b c : Str} (h : sleB a b = true) (h2 : sleB b c = true) : sleB a c = true := by
  unfold sleB at *
  simp only [Bool.not_eq_true', decide_eq_false_iff_not, List.not_lt] at *
  exact List.le_trans h h2
theorem sle_total (a b : Str) : (sleB a b || sleB b a) = true := by
  unfold sleB
  simp only [Bool.or_eq_true, Bool.not_eq_true', decide_eq_false_iff_not, List.not_lt]
  exact List.le_total _ _
theorem sle_anti {a b : Str} (h : sleB a b = true) (h2 : sleB b a = true) : a = b := by
  unfold sleB at *
  simp only [Bool.not_eq_true', decide_eq_false_iff_not, List.not_lt] at *
  have e := List.le_antisymm h h2
  cases a with | mk x => cases b with | mk y =>
  congr 1
  exact Array.toList_inj.mp e
def ssort (l : List Str) : List Str := l.mergeSort sleB
theorem ssort_perm (l : List Str) : (ssort l).Perm l := List.mergeSort_perm l _
theorem ssort_sorted (l : List Str) : (ssort l).Pairwise fun a b => sleB a b = true :=
  List.pairwise_mergeSort (le := sleB) (fun a b c h1 h2 => sle_trans h1 h2) sle_total l
theorem srt_uniq : ∀ {l m : List Str}, l.Pairwise (fun a b => sleB a b = true) → m.Pairwise (fun a b => sleB a b = true) → l.Perm m → l = m
  | [], m, _, _, h => h.symm.eq_nil.symm ▸ rfl
  | a :: l, [], _, _, h => by have := h.length_eq; simp at this
  | a :: l, b :: m, h1, h2, h => by
    have p1 := List.pairwise_cons.mp h1
    have p2 := List.pairwise_cons.mp h2
    have e : a = b := by
      have m1 : a ∈ b :: m := h.mem_iff.mp List.mem_cons_self
      have m2 : b ∈ a :: l := h.mem_iff.mpr List.mem_cons_self
      rcases List.mem_cons.mp m1 with q | q
      · exact q
      · rcases List.mem_cons.mp m2 with q2 | q2
        · exact q2.symm
        · exact sle_anti (p1.1 b q2) (p2.1 a q)
    subst e
    rw [srt_uniq p1.2 p2.2 (List.perm_cons a |>.mp h)]
theorem rising_pw : ∀ (l : List Str) (p : Str), risingS p l = true → (p :: l).Pairwise fun a b => sleB a b = true
  | [], p, _ => List.pairwise_singleton _ _
  | x :: r, p, h => by
    unfold risingS at h
    rw [Bool.and_eq_true] at h
    have ih := rising_pw r x h.2
    have e : sleB p x = true := by
      have := h.1
      rw [ltCps_eq] at this
      exact this
    refine List.pairwise_cons.mpr ⟨fun y hy => ?_, ih⟩
    rcases List.mem_cons.mp hy with q | q
    · rw [q]; exact e
    · exact sle_trans e ((List.pairwise_cons.mp ih).1 y q)
theorem sorted_pw : ∀ {l : List Str}, sortedS l = true → l.Pairwise fun a b => sleB a b = true
  | [], _ => List.Pairwise.nil
  | x :: r, h => rising_pw r x h
theorem ssort_uniq {l m : List Str} (hp : m.Perm l) (hs : sortedS m = true) : m = ssort l :=
  srt_uniq (sorted_pw hs) (ssort_sorted l) (hp.trans (ssort_perm l).symm)
def rSortedS (K : PySem.W.Frag) : List V → Hp → VK → Prop := fun vs H Q => ∃ (a : Addr) (ns : List Str), vs = [V.ref a] ∧ SqL K H a (ns.map V.str) ∧ ns.length < 64 ∧
  ∀ (ns' : List Str) (p : Addr), ns'.Perm ns → sortedS ns' = true → H p = none → Q (.ref p) (upd H p (.lst (ns'.map V.str)))
theorem cr_sortedS {X : Cx} : CallR X (.builtin "sorted") (rSortedS X.K) := by
  intro pins s σ H vs us Q I r h
  obtain ⟨a, ns, rfl, hs, h64, q⟩ := h
  obtain ⟨its, rv, hl, hz⟩ := I.list hs
  rw [Vals.ref1 r]
  have hi := rv.strs
  have il : its.length = ns.length := by rw [← rv.length, List.length_map]
  refine PyProof.Rows.sorted_strs hl.isList hi (by rw [il]; exact h64) fun out ns' k1 k2 k3 => ?_
  obtain ⟨ep, he'⟩ := PyProof.Rows.sortedAll_at s.heap its out
  have hlen : (ns'.map V.str).length ≤ sizeLine := by
    rw [List.length_map, k2.length_eq]
    rw [List.length_map] at hz
    exact hz
  exact ⟨.ref _, upd H (s.heap.objs.size + 1) (.lst (ns'.map V.str)), I.laid (t' := s.toks) (fun _ _ => PyProof.Rows.sortedAll_old) (Nat.le_succ _) ⟨hlen, out.toList, ep, vals_of_strs k1, he'⟩, rfl, q _ _ k2 k3 (I.hok.fresh (Nat.le_succ _))⟩
def gSortS : GL
  | [.lst xs] => match strs' xs with
    | some is => if is.length < 64 then some (.lst ((ssort is).map .str)) else none
    | none => none
  | _ => none
theorem reps_strs {G : Gx} {F : Hp} : ∀ (l : List Str), Reps G F (l.map V.str) (l.map D.str)
  | [] => .nil
  | x :: r => .cons (.str x) (reps_strs r)
theorem ca_sortedS {c : Ctx} {X : Cx} : CaD c X (.builtin "sorted") gSortS := car_of cr_sortedS fun xs H Q ⟨F, ds, d, e, r, hg, q⟩ => by
  unfold gSortS at hg
  split at hg
  · split at hg
    · rename_i is hi
      split at hg
      · rename_i hl
        cases hg
        obtain ⟨a, vs, h1, h2, rs⟩ := lst1 e r
        refine ⟨a, _, h1, .of (strs_reps rs hi ▸ h2), hl, fun ns' p hp hs hn => ?_⟩
        have := ssort_uniq hp hs
        subst this
        exact q.newL e (reps_strs _) p hn
      · cases hg
    · cases hg
  · cases hg
end VS

set_option Elab.async false
set_option linter.all false
set_option maxRecDepth 100000
set_option maxHeartbeats 8000000
namespace VS
open PySem PySem.Spec PyProof.Rows L2
section
variable {X : Cx} {c : Ctx} {k n t : Nat} {m : Mir} {cn x : Str} {e : Expr} {es : List Expr} {p apos pos : Pos}
end
end VS

set_option Elab.async false
set_option linter.all false
set_option maxRecDepth 100000
set_option maxHeartbeats 8000000
namespace VS
open PySem PySem.Spec PyProof.Rows L2
end VS

set_option Elab.async false
set_option linter.all false
set_option maxRecDepth 100000
set_option maxHeartbeats 8000000
namespace VS
open PySem PySem.Spec PyProof.Rows L2
section
variable {X : Cx}
end
section
variable {X : Cx} {c : Ctx}
end
end VS
namespace VS
open PySem PySem.Spec PyProof.Rows L2
section
variable {X : Cx} {c : Ctx}
end
end VS
namespace VS
open PySem PySem.Spec PyProof.Rows L2
section
variable {X : Cx} {c : Ctx}
end
end VS
namespace VS
open PySem PySem.Spec PyProof.Rows L2
theorem dicAt_nl {w : World} {b : Bool} {F H : Hp} {p : Addr} {ks : List NestedKey} {vs av : List V} (d : DicAt w b none F H p ks vs) (h : H p = some (.lst av)) : False := by
  cases b with
  | true =>
    obtain ⟨xs, d⟩ := d
    have e := d.at_
    rw [h] at e
    cases e
  | false =>
    obtain ⟨kvs, e, _⟩ := d
    rw [h] at e
    cases e
theorem comp_own {c : Ctx} {K : PySem.W.Frag} {it : SI} {t : Tg} {tt : SB} {e : SE} (σ : L2.St) (H : Hp) (Q : VK) (i0 : Nat) (h : ∃ F ρ, Ok c F H σ ρ ∧ ∃ out ρ', sComp it t tt e ρ = some (D.lst out, ρ') ∧ ∀ p H1 F1, Ext F F1 → Ok c F1 H1 (σ.set i0 (some (V.ref p))) (ρ'.set i0 (.own out)) → Q (.ref p) H1) : tLc (vi c it) (gT K t) (vbX c.G tt) (vtX c.G e) t.ix σ H Q := by
  obtain ⟨F, ρ, I, out, ρ', hs, q⟩ := h
  unfold sComp at hs
  split at hs
  · rename_i ds ρ1 e1
    split at hs
    · rename_i out2 ρ2 e2
      split at hs
      · rename_i hlen
        cases hs
        refine ⟨F, ρ, I, ds, ρ1, e1, fun J H1 F1 x1 I1 y D hD => ?_⟩
        have I1' := I1.grow (Grow.raw (o := .lst []) I1.fh hD)
        have hDF : F1 D = none := ext_none I1.fh hD
        have hD0 : c.H0 D = none := by
          cases z : c.H0 D with
          | none => rfl
          | some o => obtain ⟨o', z'⟩ := I1.al D o z; rw [hD] at z'; cases z'
        have apart : ∀ p, p ∈ mutA σ ρ1 → p ≠ D := fun p hp z => by
          obtain ⟨i, xs, k1, k2⟩ := mem_mutA.mp hp
          have : conM ρ1 i = some xs := by unfold conM; rcases k1 with k1 | k1 <;> rw [k1]
          obtain ⟨p', vs, g1, g2, _⟩ := I1.own this
          rw [k2] at g1; cases g1
          rw [z, hD] at g2; cases g2
        refine ⟨fun i m H => m = ds.length - i ∧ i ≤ ds.length ∧ ∃ F2 ρ2' acc av rest, Ok c F2 H σ ρ2' ∧ Ext F1 F2 ∧ H D = some (.lst av) ∧ F2 D = none ∧ Reps c.G F2 av acc ∧ cLoop t tt e (ds.drop i) ρ2' = some (rest, ρ') ∧ acc ++ rest = out ∧ (∀ p, p ∈ mutA σ ρ2' → p ≠ D),
          ⟨ds.length, by simp, Nat.zero_le _, F1, ρ1, [], [], out, I1', Ext.rfl', upd_same, hDF, .nil, e2, rfl, apart⟩, ?_⟩
        rintro i m H2 ⟨rfl, hi, F2, ρ3, acc, av, rest, I2, x2, hD2, hF2, r2, l2, ho, ap2⟩
        obtain ⟨y1, y2⟩ := y F2 H2 x2 I2.fh
        by_cases hlt : i < ds.length
        · rw [List.drop_eq_getElem_cons hlt] at l2
          obtain ⟨g1, g2⟩ := y1 i ds[i] (by simp [hlt])
          refine .inr ⟨g1, fun H => i + 1 ≤ ds.length ∧ ∃ F2 ρ2' acc av rest, Ok c F2 H σ ρ2' ∧ Ext F1 F2 ∧ H D = some (.lst av) ∧ F2 D = none ∧ Reps c.G F2 av acc ∧ cLoop t tt e (ds.drop (i + 1)) ρ2' = some (rest, ρ') ∧ acc ++ rest = out ∧ (∀ p, p ∈ mutA σ ρ2' → p ≠ D), fun H' ⟨h1, h2⟩ => ⟨ds.length - (i + 1), by omega, rfl, h1, h2⟩, fun x H' yy => ?_⟩
          obtain ⟨F3, g3, r3⟩ := g2 x H' yy
          have I3 := I2.grow g3
          have J3 := I3.enter t.ix
          have hD3 : H' D = some (.lst av) := g3.h _ _ hD2
          have hF3 : F3 D = none := g3.n _ _ hD2 hF2
          have nD : D ∉ mutA σ ρ3 := fun z => ap2 D z rfl
          -- the turn's own semantics
          unfold cLoop at l2
          have turn : okT t.ix ρ3 = true ∧ ∃ ρ4 b ρ5, tgt t ds[i] (blkR t.ix ρ3) = some ρ4 ∧ tt ρ4 = some (b, ρ5) ∧ ((b = true ∧ ∃ x ρ6 r xs, e ρ5 = some (x, ρ6) ∧ restore ρ3 ρ6 = some r ∧ cLoop t tt e (ds.drop (i + 1)) r = some (xs, ρ') ∧ rest = x :: xs) ∨
              (b = false ∧ ∃ r, restore ρ3 ρ5 = some r ∧ cLoop t tt e (ds.drop (i + 1)) r = some (rest, ρ'))) := by
            unfold turnC at l2
            by_cases k0 : okT t.ix ρ3 = true
            case neg => rw [if_neg k0] at l2; cases l2
            rw [if_pos k0] at l2
            refine ⟨k0, ?_⟩
            cases k1 : tgt t ds[i] (blkR t.ix ρ3) with
            | none => rw [k1] at l2; cases l2
            | some ρ4 =>
              rw [k1] at l2
              dsimp only at l2
              cases k2 : tt ρ4 with
              | none => rw [k2] at l2; cases l2
              | some p2 =>
                obtain ⟨b, ρ5⟩ := p2
                rw [k2] at l2
                refine ⟨ρ4, b, ρ5, rfl, k2, ?_⟩
                cases b with
                | true =>
                  dsimp only at l2
                  cases k3 : e ρ5 with
                  | none => rw [k3] at l2; cases l2
                  | some p3 =>
                    obtain ⟨x, ρ6⟩ := p3
                    rw [k3] at l2
                    dsimp only at l2
                    cases k4 : restore ρ3 ρ6 with
                    | none => rw [k4] at l2; cases l2
                    | some r =>
                      rw [k4] at l2
                      dsimp only [Option.map] at l2
                      cases k5 : cLoop t tt e (ds.drop (i + 1)) r with
                      | none => rw [k5] at l2; cases l2
                      | some p5 =>
                        obtain ⟨xs, ρ7⟩ := p5
                        rw [k5] at l2
                        cases l2
                        exact .inl ⟨rfl, x, ρ6, r, xs, rfl, k4, k5, rfl⟩
                | false =>
                  dsimp only at l2
                  cases k4 : restore ρ3 ρ5 with
                  | none => rw [k4] at l2; cases l2
                  | some r =>
                    rw [k4] at l2
                    exact .inr ⟨rfl, r, rfl, l2⟩
          obtain ⟨k0, ρ4, b, ρ5, k1, k2, k3⟩ := turn
          refine tgt_w J3 r3 k1 fun σ4 J4 w4 => ?_
          have hw : wipe σ4 t.ix = wipe σ t.ix := by
            rw [w4 t.ix fun _ z => z]
            apply List.ext_getElem?
            intro j
            rw [wipe_get, wipe_get, wipe_length]
            by_cases hj : j ∈ t.ix
            · simp [hj]
            · simp [hj]
          refine ⟨?_, F3, H', mutA σ ρ3, F3, ρ4, J4, b, ρ5, k2, fun H5 F5 x5 J5 => ?_⟩
          · exact hw
          -- where a slot of the block is one of ours it is none of the targets
          have nix : ∀ {ρz : Rho} {Fz Hz : Hp}, Ok ⟨c.G, F3, H', mutA σ ρ3⟩ Fz Hz σ4 ρz → ∀ (j : Nat) (xs ys : List VS.D), (ρ3[j]? = some (.own xs) ∨ ρ3[j]? = some (.bor xs)) → ρz[j]? = some (.bor ys) → j ∉ t.ix :=
            fun _ j xs ys hx _ => okT_no k0 hx
          have fin : ∀ {ρz r : Rho} {Fz Hz : Hp}, Ok ⟨c.G, F3, H', mutA σ ρ3⟩ Fz Hz σ4 ρz → restore ρ3 ρz = some r → Ok c Fz Hz σ r ∧ Hz D = some (.lst av) ∧ Fz D = none ∧ Ext F3 Fz ∧ (∀ p, p ∈ mutA σ r → p ≠ D) := fun {ρz r Fz Hz} Jz hr => by
            refine ⟨I3.leave Jz hw hr (nix Jz), Jz.fr _ _ hD3 nD nt_lst, Jz.n0 _ _ hD3 hF3, Jz.f0, fun p hp => ?_⟩
            obtain ⟨j, xs, m1, m2⟩ := mem_mutA.mp hp
            refine ap2 p (mem_mutA.mpr ?_)
            rcases m1 with m1 | m1
            · obtain ⟨s0, z1, z2⟩ := restore_get hr m1
              rcases z2 with ⟨z2, z3⟩ | ⟨zs, ys, _, ⟨z3, _⟩ | ⟨_, z4⟩⟩
              · exact absurd z2.symm (z3 _).1
              · exact ⟨j, zs, .inl (by rw [z1, z3]), m2⟩
              · cases z4
            · obtain ⟨s0, z1, z2⟩ := restore_get hr m1
              rcases z2 with ⟨z2, z3⟩ | ⟨zs, ys, _, ⟨_, z4⟩ | ⟨z3, _⟩⟩
              · exact absurd z2.symm (z3 _).2
              · cases z4
              · exact ⟨j, zs, .inr (by rw [z1, z3]), m2⟩
          rcases k3 with ⟨rfl, x, ρ6, r, xs, j1, j2, j3, j4⟩ | ⟨rfl, r, j2, j3⟩
          · refine iteT ⟨F3, H', mutA σ ρ3, F5, ρ5, J5, x, ρ6, j1, fun v H6 F6 x6 J6 r6 => ?_⟩
            obtain ⟨I6, hD6, hF6, x36, ap6⟩ := fin J6 j2
            have ra : Reps c.G F6 av acc := (r2.ext g3.f).ext x36
            have hz : av.length < sizeLine := by
              rw [ra.length]
              have : acc.length < out.length := by rw [← ho, j4]; simp
              have := ln_fit hlen
              omega
            refine ⟨av, hD6, hz, hlt, F6, r, acc ++ [x], av ++ [v], xs, ?_, (x2.trans g3.f).trans x36, upd_same, hF6, ra.append (.one r6), j3, by rw [← ho, j4]; simp, ap6⟩
            exact I6.other hD6 hF6 hD0 (fun z => ap6 _ z rfl) _
          · refine iteF ?_
            obtain ⟨I5, hD5, hF5, x35, ap5⟩ := fin J5 j2
            exact ⟨hlt, F5, r, acc, av, rest, I5, (x2.trans g3.f).trans x35, hD5, hF5, (r2.ext g3.f).ext x35, j3, ho, ap5⟩
        · have hi' : i = ds.length := by omega
          subst hi'
          rw [List.drop_length] at l2
          unfold cLoop at l2
          cases l2
          rw [List.append_nil] at ho
          subst ho
          refine .inl ⟨y2, ?_⟩
          refine q D H2 F2 (x1.trans x2) (I2.take hF2 hD2 hD0 (fun j s p hs hm hp z => ?_) r2 i0)
          subst z
          obtain ⟨ov, w1, w2⟩ := I2.sl j s hs
          rw [hp] at w1
          cases w1
          cases s with
          | no => cases hm
          | val d => cases hm
          | lam g0 => cases hm
          | own ys => exact ap2 _ (mem_mutA.mpr ⟨j, ys, .inl hs, hp⟩) rfl
          | bor ys => exact ap2 _ (mem_mutA.mpr ⟨j, ys, .inr hs, hp⟩) rfl
          | slf k fs => obtain ⟨p', e1, _, _, dx, gs, e2, _⟩ := w2; cases e1; rw [hD2] at e2; cases e2
          | dic b ks fs => obtain ⟨p', e1, _, _, vs, e2, _⟩ := w2; cases e1; exact dicAt_nl e2 hD2
      · cases hs
    · cases hs
  · cases hs
def kOwnLc (i : Nat) (s : SE) : SS := fun ρ => match s ρ with
  | some (.lst xs, ρ1) => some (.nx, ρ1.set i (.own xs))
  | _ => none
section
variable {X : Cx} {c : Ctx}
theorem vs_ownLc {i : Nat} {y : Str} {py : Pos} {elt tg iter : Expr} {ifs : List Expr} {scope : Scope} {own : List (Str × Nat)} {pos spos : Pos} {it : SI} {tt : SB} {e : SE} (t : Tg) (hc : X.calm = true) (hN : X.N.Nodup)
    (hi : PI X tg iter (vi c it)) (ok : BlkOk X.N X.env.scope scope own) (hix : own.map (·.2) = t.ix)
    (hg : ∀ (s : Shared) (H : Hp) (C : Addr) (cl : List (Str × Addr)) (fp : List Addr), PG (X.blk s H scope (compEnvC scope cl C X.env) fp) tg (gT X.K t))
    (ht : ∀ (s : Shared) (H : Hp) (C : Addr) (cl : List (Str × Addr)) (fp : List Addr) (F0 H0 : Hp) (B : List Addr), PTs (X.blk s H scope (compEnvC scope cl C X.env) fp) ifs (vb ⟨c.G, F0, H0, B⟩ tt))
    (he : ∀ (s : Shared) (H : Hp) (C : Addr) (cl : List (Str × Addr)) (fp : List Addr) (F0 H0 : Hp) (B : List Addr), PE (X.blk s H scope (compEnvC scope cl C X.env) fp) elt (vt ⟨c.G, F0, H0, B⟩ e))
    (hsw : swapsWith (.ListComp elt [⟨tg, iter, ifs, 0⟩] scope pos) (some (.Name y py)) spos.line X.env = pure true)
    (hy : X.N[i]? = some y := by rfl) (hyl : X.env.scope.names.lookup y = some .local := by rfl)
    (hs : ∀ x, foldedSetIterable iter X.env x = pure x := by intro _; rfl) : PS X (.Assign [.Name y py] (.ListComp elt [⟨tg, iter, ifs, 0⟩] scope pos) spos) (vs c (kOwnLc i (sComp it t tt e))) :=
  ps_of (ps_setLc hc hN hy hyl hsw hi ok hg (fun s H C cl fp => pts_X (ht s H C cl fp)) (fun s H C cl fp => pe_X (he s H C cl fp)) hs) fun σ H E q => by
    obtain ⟨F, ρ, I, fl, ρ', e1, q⟩ := q
    unfold kOwnLc at e1
    split at e1
    · rename_i xs ρ1 e2
      cases e1
      rw [hix]
      exact comp_own σ H _ i ⟨F, ρ, I, xs, ρ1, e2, fun p H1 F1 x1 I1 => q _ _ _ x1 I1⟩
    · cases e1
end
end VS
namespace VS
open PySem PySem.Spec PyProof.Rows L2
section
variable {X : Cx} {c : Ctx}
end
end VS

set_option Elab.async false
set_option linter.all false
set_option maxRecDepth 100000
set_option maxHeartbeats 8000000
namespace VS
open PySem PySem.Spec PyProof.Rows L2
section
variable {X : Cx} {c : Ctx}
end
end VS

set_option Elab.async false
set_option linter.all false
set_option maxRecDepth 100000
set_option maxHeartbeats 4000000
namespace VS
open PySem PySem.Spec PyProof.Rows L2
section
variable {c : Ctx} {X : Cx} {tg : Expr}
end
end VS

set_option Elab.async false
set_option linter.all false
set_option maxRecDepth 100000
set_option maxHeartbeats 4000000
namespace VS
open PySem PySem.Spec PyProof.Rows L2 PySem.Calls
section
variable {X : Cx} {pins : List (Addr × Obj)} {σ : L2.St} {H : Hp} {s s' : Shared}
end
section
variable {c : Ctx} {X : Cx}
end
end VS

set_option Elab.async false
set_option linter.all false
set_option maxRecDepth 100000
set_option maxHeartbeats 4000000
namespace VS
open PySem PySem.Spec PyProof.Rows L2
section
variable {c : Ctx} {X : Cx}
end
end VS

set_option Elab.async false
set_option linter.all false
set_option maxRecDepth 100000
set_option maxHeartbeats 4000000
namespace VS
open PySem PySem.Spec PyProof.Rows L2
def inT (a b : D) : Option Bool := match toP a, toP b with
  | some x, some (.list ys) => if SeqAt.shaped x = true ∧ SeqAt.shaped (.list ys) = true then some (ys.any fun z => PyData.eqv z x) else none
  | _, _ => none
section
variable {c : Ctx} {X : Cx}
end
end VS

set_option Elab.async false
set_option linter.all false
set_option maxRecDepth 100000
set_option maxHeartbeats 4000000
namespace VS
open PySem PySem.Spec PyProof.Rows L2
section
variable {c : Ctx} {X : Cx}
end
end VS

set_option Elab.async false
set_option linter.all false
set_option maxRecDepth 100000
set_option maxHeartbeats 4000000
namespace VS
open PySem PySem.Spec PyProof.Rows L2
section
variable {c : Ctx} {X : Cx}
end
end VS

set_option Elab.async false
set_option linter.all false
set_option maxRecDepth 100000
set_option maxHeartbeats 4000000
namespace VS
open PySem PySem.Spec PyProof.Rows L2
section
variable {c : Ctx} {X : Cx}
end
end VS
namespace VS
open PySem PySem.Spec PyProof.Rows L2
end VS
namespace VS
open PySem PySem.Spec PyProof.Rows L2
section
variable {c : Ctx} {X : Cx}
end
end VS

set_option Elab.async false
set_option linter.all false
set_option maxRecDepth 100000
set_option maxHeartbeats 4000000
namespace VS
open PySem PySem.Spec PyProof.Rows L2
section
variable {X : Cx} {c : Ctx}
end
end VS

set_option Elab.async false
set_option linter.all false
set_option maxRecDepth 100000
set_option maxHeartbeats 4000000
namespace VS
open PySem PySem.Spec PyProof.Rows L2
def NoMut (ρ : Rho) : Prop := ∀ (i : Nat) s, ρ[i]? = some s → s.mut = false
theorem NoMut.mutA {σ : L2.St} {ρ : Rho} (n : NoMut ρ) (p : Addr) : p ∉ mutA σ ρ := fun h => by
  obtain ⟨i, xs, h1, h2⟩ := mem_mutA.mp h
  rcases h1 with h1 | h1 <;> (have := n _ _ h1; cases this)
theorem NoMut.setS {ρ : Rho} (n : NoMut ρ) (i : Nat) {s0 : Sl} (h0 : s0.mut = false) : NoMut (ρ.set i s0) := fun j s h => by
  by_cases z : i = j
  · subst z
    have hl : i < ρ.length := by have := (List.getElem?_eq_some_iff.mp h).1; rwa [List.length_set] at this
    rw [List.getElem?_set_self hl] at h; cases h; exact h0
  · rw [List.getElem?_set_ne z] at h; exact n j s h
theorem NoMut.sets : ∀ {is : List Nat} {ds : List D} {ρ ρ' : Rho}, NoMut ρ → VS.sets is ds ρ = some ρ' → NoMut ρ'
  | [], [], _, _, n, h => by unfold VS.sets at h; cases h; exact n
  | i :: is, d :: ds, ρ, ρ', n, h => by unfold VS.sets at h; exact NoMut.sets (n.setS i (s0 := .val d) rfl) h
  | [], _ :: _, _, _, _, h => by unfold VS.sets at h; cases h
  | _ :: _, [], _, _, _, h => by unfold VS.sets at h; cases h
theorem NoMut.tgt {t : Tg} {d : D} {ρ ρ' : Rho} (n : NoMut ρ) (h : VS.tgt t d ρ = some ρ') : NoMut ρ' := by
  cases t with
  | nm i => unfold VS.tgt at h; cases h; exact n.setS i rfl
  | tp is =>
    cases d with
    | tup ds => exact NoMut.sets n h
    | _ => simp [VS.tgt] at h
  | np i is =>
    unfold VS.tgt at h
    split at h
    · rename_i e; cases e
    · rename_i e; cases e
    · rename_i e; cases e; exact NoMut.sets (n.setS i (s0 := .val _) rfl) h
    · cases h
theorem NoMut.restore {ρ ρ2 r : Rho} (n : NoMut ρ) (h : VS.restore ρ ρ2 = some r) : NoMut r := fun i s hs => by
  obtain ⟨s0, h1, h2⟩ := restore_get h hs
  rcases h2 with ⟨rfl, _⟩ | ⟨xs, ys, _, ⟨e, _⟩ | ⟨e, _⟩⟩
  · exact n _ _ h1
  · subst e; have := n _ _ h1; cases this
  · subst e; have := n _ _ h1; cases this
section
variable {c : Ctx} {X : Cx}
theorem Ok.othX {F H : Hp} {σ : L2.St} {ρ : Rho} {p : Addr} {o : HO} (I : Ok c F H σ ρ) (nm : NoMut ρ) (hp : H p = some o) (nt : ∀ ps, o ≠ .tbl ps) (nc : ∀ c q, o ≠ LamX.CodeO c q) (nl : ¬ LamL o) (hF : F p = none) (h0 : c.H0 p = none) (o' : HO) : Ok c F (upd H p o') σ ρ := by
  have nF : ∀ q u, F q = some u → q ≠ p := fun q u e z => by subst z; rw [hF] at e; cases e
  have n0 : ∀ q u, c.H0 q = some u → q ≠ p := fun q u e z => by subst z; rw [h0] at e; cases e
  refine ⟨I.len, I.f0, fun q u e => by rw [upd_ne (nF q u e)]; exact I.fh q u e, fun q u e1 e2 e3 => by rw [upd_ne (n0 q u e1)]; exact I.fr q u e1 e2 e3, fun q u e => by rw [upd_ne (n0 q u e)]; exact I.al q u e, I.n0, fun i s hs => ?_, I.ap, I.hb, ⟨tabs_upd I.tb.t hp nt nc, I.tb.n⟩⟩
  obtain ⟨ov, h1, h2⟩ := I.sl i s hs
  have hm := nm i s hs
  refine ⟨ov, h1, ?_⟩
  cases s with
  | no => cases ov <;> trivial
  | val d => cases ov <;> exact h2
  | lam g0 =>
    cases ov with
    | none => exact h2
    | some v => exact let ⟨f1, z1, z2⟩ := h2; ⟨f1, z1, z2.move Ext.rfl' fun q0 u0 e1 e2 => ⟨by rw [upd_ne (fun z => by subst z; rw [hp] at e1; cases e1; exact nl e2)]; exact e1, id⟩⟩
  | own xs => cases hm
  | bor xs => cases hm
  | slf k fs => cases hm
  | dic b k fs => cases hm
def QO (c : Ctx) (F H : Hp) (q : Addr) (xs : List D) : Prop := c.H0 q = none ∧ F q = none ∧ ∃ us, H q = some (.lst us) ∧ Reps c.G F us xs
inductive QL (R : Addr → List D → Prop) : List Addr → List (List D) → Prop
  | nil : QL R [] []
  | cons {q : Addr} {x : List D} {qs : List Addr} {xss : List (List D)} : R q x → QL R qs xss → QL R (q :: qs) (x :: xss)
theorem QL.mono {R R' : Addr → List D → Prop} : ∀ {qs : List Addr} {xss : List (List D)}, QL R qs xss → (∀ q x, q ∈ qs → R q x → R' q x) → QL R' qs xss
  | _, _, .nil, _ => .nil
  | _, _, .cons h r, w => .cons (w _ _ List.mem_cons_self h) (QL.mono r fun q x hq => w q x (List.mem_cons_of_mem _ hq))
theorem QL.len {R : Addr → List D → Prop} : ∀ {qs : List Addr} {xss : List (List D)}, QL R qs xss → qs.length = xss.length
  | _, _, .nil => rfl
  | _, _, .cons _ r => by simp [QL.len r]
theorem QL.snoc {R : Addr → List D → Prop} {q : Addr} {x : List D} (h : R q x) : ∀ {qs : List Addr} {xss : List (List D)}, QL R qs xss → QL R (qs ++ [q]) (xss ++ [x])
  | _, _, .nil => .cons h .nil
  | _, _, .cons a r => .cons a (QL.snoc h r)
theorem QL.mem {R : Addr → List D → Prop} : ∀ {qs : List Addr} {xss : List (List D)} {q : Addr}, QL R qs xss → q ∈ qs → ∃ x ∈ xss, R q x
  | _, _, _, .nil, h => by cases h
  | _, _, _, .cons a r, h => by
    rcases List.mem_cons.mp h with rfl | h
    · exact ⟨_, List.mem_cons_self, a⟩
    · obtain ⟨x, h1, h2⟩ := QL.mem r h; exact ⟨x, List.mem_cons_of_mem _ h1, h2⟩
def mpA : List NestedKey → List (List D) → NestedKey → D → List (List D)
  | a :: ks, x :: xss, k, d => (if a = k then x ++ [d] else x) :: mpA ks xss k d
  | _, _, _, _ => []
theorem mpA_not {k : NestedKey} {d : D} : ∀ {ks : List NestedKey} {xss : List (List D)}, ks.length = xss.length → k ∉ ks → mpA ks xss k d = xss
  | [], [], _, _ => rfl
  | a :: ks, x :: xss, h, n => by
    unfold mpA
    rw [if_neg fun z => n (by rw [z]; exact List.mem_cons_self), mpA_not (by simpa using h) fun z => n (List.mem_cons_of_mem _ z)]
  | [], _ :: _, h, _ => by simp at h
  | _ :: _, [], h, _ => by simp at h
theorem lkN_adr {k : NestedKey} {d : D} : ∀ {ks : List NestedKey} {qs : List Addr}, lkN ks (qs.map D.adr) k = some d → ∃ q ∈ qs, d = .adr q
  | [], qs, h => by cases qs <;> simp [lkN] at h
  | a :: ks, [], h => by simp [lkN] at h
  | a :: ks, q :: qs, h => by
    rw [List.map_cons] at h
    unfold lkN at h
    by_cases z : a = k
    · rw [if_pos z] at h; cases h; exact ⟨q, List.mem_cons_self, rfl⟩
    · rw [if_neg z] at h
      obtain ⟨q', h1, h2⟩ := lkN_adr h
      exact ⟨q', List.mem_cons_of_mem _ h1, h2⟩
theorem QL.app {R R' : Addr → List D → Prop} {k : NestedKey} {d : D} {q : Addr} : ∀ {ks : List NestedKey} {qs : List Addr} {xss : List (List D)}, QL R qs xss → ks.length = qs.length → ks.Nodup → qs.Nodup → lkN ks (qs.map D.adr) k = some (.adr q) →
    (∀ x, R q x → R' q (x ++ [d])) → (∀ q' x, q' ∈ qs → q' ≠ q → R q' x → R' q' x) → QL R' qs (mpA ks xss k d)
  | [], _, _, .nil, _, _, _, h, _, _ => by simp [lkN] at h
  | _ :: _, _, _, .nil, h, _, _, _, _, _ => by simp at h
  | [], _, _, .cons _ _, h, _, _, _, _, _ => by simp at h
  | a :: ks, b :: qs, x :: xss, .cons h r, hl, nk, nq, e, w1, w2 => by
    rw [List.map_cons] at e
    unfold lkN at e
    unfold mpA
    have nk' := List.nodup_cons.mp nk
    have nq' := List.nodup_cons.mp nq
    by_cases z : a = k
    · rw [if_pos z] at e ⊢
      cases e
      rw [mpA_not (by rw [← r.len]; simpa using hl) (by rw [← z]; exact nk'.1)]
      exact .cons (w1 _ h) (r.mono fun q' x' hq hx => w2 q' x' (List.mem_cons_of_mem _ hq) (fun y => nq'.1 (by rw [← y]; exact hq)) hx)
    · rw [if_neg z] at e ⊢
      obtain ⟨q', m1, m2⟩ := lkN_adr e
      cases m2
      exact .cons (w2 _ _ List.mem_cons_self (fun y => nq'.1 (by rw [y]; exact m1)) h) (QL.app r (by simpa using hl) nk'.2 nq'.2 e w1 fun q' x' hq hn hx => w2 q' x' (List.mem_cons_of_mem _ hq) hn hx)
structure Gh (c : Ctx) (F H : Hp) (σ : L2.St) (iF : Nat) (ks : List NestedKey) (xss : List (List D)) (p : Addr) (qs : List Addr) (vs : List V) : Prop where
  sl : σ[iF]? = some (some (V.ref p))
  p0 : c.H0 p = none
  pF : F p = none
  da : DicAt c.G.w true none F H p ks vs
  rs : Reps c.G F vs (qs.map D.adr)
  nq : qs.Nodup
  ql : QL (QO c F H) qs xss
theorem Gh.ne {F H : Hp} {σ : L2.St} {iF : Nat} {ks : List NestedKey} {xss : List (List D)} {p : Addr} {qs : List Addr} {vs : List V} (g : Gh c F H σ iF ks xss p qs vs) : p ∉ qs := fun h => by
  obtain ⟨x, _, _, _, us, h1, _⟩ := g.ql.mem h
  obtain ⟨xs, d⟩ := g.da
  have := d.at_
  rw [h1] at this
  unfold lkO rawO at this
  cases this
theorem Gh.klen {F H : Hp} {σ : L2.St} {iF : Nat} {ks : List NestedKey} {xss : List (List D)} {p : Addr} {qs : List Addr} {vs : List V} (g : Gh c F H σ iF ks xss p qs vs) : ks.length = qs.length := by
  obtain ⟨xs, d⟩ := g.da
  have h1 := d.vse.length
  have h2 := g.rs.length
  rw [List.length_map] at h1 h2
  rw [d.kse, List.length_map, ← h1, h2]
theorem Gh.knd {F H : Hp} {σ : L2.St} {iF : Nat} {ks : List NestedKey} {xss : List (List D)} {p : Addr} {qs : List Addr} {vs : List V} (g : Gh c F H σ iF ks xss p qs vs) : ks.Nodup := by
  obtain ⟨xs, d⟩ := g.da
  exact d.nd
theorem Gh.move {F H F' H' : Hp} {σ σ' : L2.St} {iF : Nat} {ks : List NestedKey} {xss : List (List D)} {p : Addr} {qs : List Addr} {vs : List V} (g : Gh c F H σ iF ks xss p qs vs) (hs : σ'[iF]? = σ[iF]?) (e : Ext F F')
    (h : ∀ a o, H a = some o → (∀ ps, o ≠ .tbl ps) → H' a = some o) (n : ∀ a o, H a = some o → F a = none → F' a = none) : Gh c F' H' σ' iF ks xss p qs vs := by
  obtain ⟨o, ho, nt⟩ := g.da.obT
  exact ⟨by rw [hs]; exact g.sl, g.p0, n p o ho g.pF, g.da.ext e fun o' k => h p o' k (by rw [ho] at k; cases k; exact nt), g.rs.ext e, g.nq, g.ql.mono fun q x _ ⟨a1, a2, us, a3, a4⟩ => ⟨a1, n q _ a3 a2, us, h q _ a3 (fun _ z => by cases z), a4.ext e⟩⟩
theorem Gh.open {F H : Hp} {σ : L2.St} {ρ : Rho} {iF : Nat} {ks : List NestedKey} {xss : List (List D)} {p : Addr} {qs : List Addr} {vs : List V} (I : Ok c F H σ ρ) (nm : NoMut ρ) (g : Gh c F H σ iF ks xss p qs vs) {q : Addr} (hq : H q = none) (key : NestedKey) (nk : key ∉ ks) {u : HO} {vs' : List V}
    (du : dicU c.G.w p u) (da : DicAt c.G.w true none F (upd (upd H q (.lst [])) p u) p (pkN ks key) vs') (rs : Reps c.G F vs' (pvN ks (qs.map D.adr) key (.adr q))) :
    Ok c F (upd (upd H q (.lst [])) p u) σ ρ ∧ Gh c F (upd (upd H q (.lst [])) p u) σ iF (pkN ks key) (xss ++ [[]]) p (qs ++ [q]) vs' := by
  obtain ⟨u0, hh, du0, _⟩ := g.da.u
  have np : p ≠ q := fun z => by rw [z, hq] at hh; cases hh
  have I1 := I.grow (Grow.raw (o := .lst []) I.fh hq)
  have hp1 : upd H q (.lst []) p = some u0 := by rw [upd_ne np]; exact hh
  have I2 := I1.othX nm hp1 du0.nt du0.nc (du0.nl none) g.pF g.p0 u
  refine ⟨I2, g.sl, g.p0, g.pF, da, ?_, ?_, ?_⟩
  · unfold pvN at rs
    rw [if_neg nk] at rs
    rw [List.map_append]
    exact rs
  · rw [List.nodup_append]
    refine ⟨g.nq, by simp, fun a ha b hb z => ?_⟩
    rw [List.mem_singleton] at hb
    subst hb; subst z
    obtain ⟨x, _, _, _, us, h1, _⟩ := g.ql.mem ha
    rw [hq] at h1; cases h1
  · have pq := g.ne
    refine QL.snoc ⟨I.no_H0 hq, ext_none I.fh hq, [], by rw [upd_ne (Ne.symm np)]; exact upd_same, .nil⟩ (g.ql.mono fun q' x hq' ⟨a1, a2, us, a3, a4⟩ => ⟨a1, a2, us, ?_, a4⟩)
    have z1 : q' ≠ p := fun z => pq (by rw [← z]; exact hq')
    have z2 : q' ≠ q := fun z => by rw [z, hq] at a3; cases a3
    rw [upd_ne z1, upd_ne z2]
    exact a3
theorem Gh.app {F H : Hp} {σ : L2.St} {ρ : Rho} {iF : Nat} {ks : List NestedKey} {xss : List (List D)} {p : Addr} {qs : List Addr} {vs : List V} (I : Ok c F H σ ρ) (nm : NoMut ρ) (g : Gh c F H σ iF ks xss p qs vs) {key : NestedKey} {q : Addr} (hl : lkN ks (qs.map D.adr) key = some (.adr q)) {us : List V} (hq : H q = some (.lst us)) {w : V} {pd : D} (rw' : Rep c.G F w pd) :
    Ok c F (upd H q (.lst (us ++ [w]))) σ ρ ∧ Gh c F (upd H q (.lst (us ++ [w]))) σ iF ks (mpA ks xss key pd) p qs vs := by
  obtain ⟨q', m1, m2⟩ := lkN_adr hl
  cases m2
  obtain ⟨x0, _, b0, bF, us0, b1, b2⟩ := g.ql.mem m1
  rw [hq] at b1; cases b1
  have np : p ≠ q := fun z => g.ne (by rw [z]; exact m1)
  refine ⟨I.othX nm hq (fun _ z => by cases z) nc_lst nl_lst bF b0 _, g.sl, g.p0, g.pF, g.da.ext Ext.rfl' fun o k => by rw [upd_ne np]; exact k, g.rs, g.nq, ?_⟩
  refine QL.app g.ql g.klen g.knd g.nq hl (fun x ⟨a1, a2, ws, a3, a4⟩ => ⟨a1, a2, us ++ [w], upd_same, ?_⟩) fun q' x _ hn ⟨a1, a2, ws, a3, a4⟩ => ⟨a1, a2, ws, by rw [upd_ne hn]; exact a3, a4⟩
  rw [hq] at a3; cases a3
  exact a4.append (.one rw')
end
end VS

set_option Elab.async false
set_option linter.all false
set_option maxRecDepth 100000
set_option maxHeartbeats 4000000
namespace VS
open PySem PySem.Spec PyProof.Rows L2
section
variable {c : Ctx} {X : Cx} {k t : Nat} {m : Mir} {a : Expr} {sa : SE} {pos : Pos}
end
end VS

set_option Elab.async false
set_option linter.all false
set_option maxRecDepth 100000
set_option maxHeartbeats 4000000
namespace VS
open PySem PySem.Spec PyProof.Rows L2
end VS

set_option Elab.async false
set_option linter.all false
set_option maxRecDepth 100000
set_option maxHeartbeats 4000000
namespace VS
open PySem PySem.Spec PyProof.Rows L2
end VS

set_option Elab.async false
set_option linter.all false
set_option maxRecDepth 100000
set_option maxHeartbeats 4000000
namespace VS
open PySem PySem.Spec PyProof.Rows L2
section
variable {c : Ctx} {X : Cx}
end
end VS

set_option Elab.async false
set_option linter.all false
set_option maxRecDepth 100000
set_option maxHeartbeats 4000000
namespace VS
open PySem PySem.Spec PyProof.Rows L2
open PySem.W (kxs_mw KxsFacts)
abbrev supBody (p0 p1 p2 p3 p4 p5 q1 q2 q3 q4 : Pos) : List Stmt :=
  [.Expr (.Call (.Attribute (.Call (.Name "super" p0) [] [] p1) "__init__" p2) [.Name "value" p3] [] p4) p5, .Assign [.Attribute (.Name "self" q1) "value" q2] (.Name "value" q3) q4]
structure SupC (P : Program) (K : PySem.W.Frag) (C f : Addr) (fd : FuncData) : Prop where
  fn : ∃ (oc : Value) (od : Option Addr) (osl : Array (Option Value)), K.lookup f = some ⟨oc, od, .func fd, osl⟩
  sh : ∃ (qual : Str) (params : Arguments) (p0 p1 p2 p3 p4 p5 q1 q2 q3 q4 : Pos) (scope : Scope) (dV kV doc pm ct : Value) (an : Option Addr) (cda cc : Addr) (ar : Arg),
    fd = PySem.W.fnX "__init__" qual params (supBody p0 p1 p2 p3 p4 p5 q1 q2 q3 q4) scope [("__class__", cc)] dV kV doc pm an (.ref cda) ct ∧ PySem.W.codeIn K (.ref cda) qual = true ∧
    (params.posonlyargs ++ params.args).head? = some ar ∧ ar.arg = "self" ∧ (p2.endLine == p4.line) = true ∧
    scope.names.lookup ("self" : Str) = some .local ∧ scope.names.lookup ("value" : Str) = some .local ∧ scope.names.lookup ("super" : Str) = some .globalImplicit ∧ scope.names.lookup ("__class__" : Str) = some .free ∧
    (∀ x ∈ scope.names, x.2 ≠ .cell) ∧ scope.isCoroutine = false ∧ scope.isGenerator = false ∧ scope.kind = .function ∧
    (∃ (ccl : Value) (cdd : Option Addr) (vs : Array Value) (ccs : Array (Option Value)) (file : Str) (tf : Tok), K.lookup cda = some ⟨ccl, cdd, .fields vs, ccs⟩ ∧ vs[2]? = some (.str file tf) ∧ ((P.main.file : Str) == file) = true) ∧
    (∃ (cl : Value) (cld : Option Addr) (csl : Array (Option Value)), K.lookup cc = some ⟨cl, cld, .cell (some (.ref C)), csl⟩)
  top : (P.main.scope.names.lookup ("super" : Str)).isSome = false
  oex : OexC K C
  sup : PySem.W.ks_superIn K C C "__init__" = some (some (.builtin "ValueError.__init__"))
  opq : PySem.W.nsIn K cStatics "thirdparty.any" = some none
  va : PySem.W.findIn K (.ref C) "value" = some none
  ini : PySem.W.findIn K (.ref C) "__init__" = some (some (.ref f))
  tyf : PySem.W.typeIn K (.ref f) = some (.type "function")
  mro : PySem.W.mroIn K C (.ref C) = some true
  sub : PySem.W.subIn K (.ref C) (.type "ValueError") = some true
section
variable {P : Program} {w : World} {K : PySem.W.Frag} {mg : Str → Option Value} {base : Heap} {A : Around} {R : Result → Shared → Prop} {hp : Heap} {g : Array GenState} {d : Drawn} {t : Nat} {os : OsState}
theorem sup_init {C f e t0 : Addr} {fd : FuncData} {v : Value} {args : Args} (T : SupC P K C f fd) (M : Mod K mg base) (bk : ∀ b o, base.get? b = some o → hp.get? b = some o) (be : base.get? e = none) (ms : mg "super" = none) (hroom : A.depth < recursionLimit)
    (he : hp.get? e = some ({ cls := .ref C, data := .fields #[.ref t0, .none, .none, .none, .bool false, .none] } : Obj)) (hb : BindsTo ⟨hp, g, d, t, os⟩ fd args [("self", .ref e), ("value", v)])
    (hq : ∀ h' tk dx (t1 : Addr), (∀ b o, b ≠ e → hp.get? b = some o → h'.get? b = some o) → hp.objs.size ≤ dx → h'.get? e = some ({ cls := .ref C, dict := some dx, data := .fields #[.ref t1, .none, .none, .none, .bool false, .none] } : Obj) →
      h'.Ns1 dx (fun y => if y = ("value" : Str) then some v else none) → R (.ok (.ret .none)) ⟨h', g, d, tk, os⟩) : codeAny (model P w) A (.call (.ref f) args) R ⟨hp, g, d, t, os⟩ := by
  obtain ⟨oc, od, osl, lk⟩ := T.fn
  obtain ⟨qual, params, p0, p1, p2, p3, p4, p5, q1, q2, q3, q4, scope, dV, kV, doc, pm, ct, an, cda, cc, ar, rfl, hcd, hpar, har, h24, ls, lv, lsu, lcl, ncell, hco, hgen, hk, ⟨ccl, cdd, vs, ccs, file, tf, lcode, hvs, hfile⟩, cl, cld, csl, lcell⟩ := T.sh
  obtain ⟨nm, q, N, bs, bm, sn, sub, ab, col, dd, k0, k1, k2, k3, k5, hC, hbm⟩ := T.oex.cls
  obtain ⟨mb, nb, hbv⟩ := M.blt
  have X : K.In hp := M.kin.keeps bk
  have hcl : PySem.W.clsIn K C = some { name := nm, bases := bs, mro := .ref C :: bm, ns := N, qualname := q, hasDict := true, slotNames := sn, subclasses := sub, abstract := ab, collection := col, hasDel := false } := by unfold PySem.W.clsIn; rw [hC] <;> rfl
  refine ks_codeAny_call_defAt (fd := PySem.W.fnX "__init__" qual params (supBody p0 p1 p2 p3 p4 p5 q1 q2 q3 q4) scope [("__class__", cc)] dV kV doc pm an (.ref cda) ct) (body := supBody p0 p1 p2 p3 p4 p5 q1 q2 q3 q4) hroom (X _ _ lk) rfl (M.nolimit.keeps bk) (PySem.W.codeRec_of X hcd) rfl hb ncell (fun x hx => ?_) (fun h₁ hns hk₁ => ?_) hco hgen hk
  · rcases List.mem_cons.mp hx with rfl | hx
    · exact ls
    · rw [List.mem_singleton.mp hx]; exact lv
  generalize hL : hp.objs.size = L at *
  have X1 : K.In h₁ := X.keeps hk₁
  have he1 := hk₁ _ _ he
  have hC1 := X1 _ _ hC
  have ns_self : (fun x : Str => List.lookup x ([("self", Value.ref e), ("value", v)] : List (Str × Value)).reverse) "self" = some (Value.ref e) := by rfl
  have ns_val : (fun x : Str => List.lookup x ([("self", Value.ref e), ("value", v)] : List (Str × Value)).reverse) "value" = some v := by rfl
  have hev : ∀ (env : Env) (pl : Sem Bool), pl = (do return (← importBound (.Call (.Name "super" p0) [] [] p1) env).getD true) → eval (.Call (.Attribute (.Call (.Name "super" p0) [] [] p1) "__init__" p2) [.Name "value" p3] [] p4) env = (do
      let ov ← attributeBase (.Call (.Name "super" p0) [] [] p1) "__init__" env (eval (.Call (.Name "super" p0) [] [] p1) env)
      standAt p2.atName
      let (f, first) ← holding [ov] (getMethod ov "__init__" pl)
      callWith p4 f first (backTo p4 (starEach [.Name "value" p3] env)) []) := fun env pl hpl => by
    subst hpl
    show (do
      let ov ← attributeBase (.Call (.Name "super" p0) [] [] p1) "__init__" env (eval (.Call (.Name "super" p0) [] [] p1) env)
      standAt p2.atName
      methodCall (.Call (.Name "super" p0) [] [] p1) "__init__" p2 p4 env ov 1 (backTo p4 (starEach [.Name "value" p3] env)) []) = _
    unfold methodCall methodCallPos
    simp only [h24, Bool.or_true, if_true, pure_bind]
    rfl
  have hint : interactive (callEnv (PySem.W.fnX "__init__" qual params (supBody p0 p1 p2 p3 p4 p5 q1 q2 q3 q4) scope [("__class__", cc)] dV kV doc pm an (.ref cda) ct) L f) = false := by
    show (scope.kind == ScopeKind.module && _) = false
    rw [hk]
    rfl
  refine ks_wpAt_execs_cons (ks_wpAt_Expr_any (hi := hint) (ks_wpAt_MethodCall (he := hev _ _ rfl) (ks_wpAt_super_base (env := callEnv (PySem.W.fnX "__init__" qual params (supBody p0 p1 p2 p3 p4 p5 q1 q2 q3 q4) scope [("__class__", cc)] dV kV doc pm an (.ref cda) ct) L f) lsu lcl (by rfl) rfl (X1 _ _ lk) rfl hpar rfl (X1 _ _ lcode) rfl hvs hfile T.top ?_)))
  have bk1 : ∀ b o, base.get? b = some o → h₁.get? b = some o := fun b o z => hk₁ b o (bk b o z)
  refine PySem.W.ks_loadName_global hk lsu (Calls.loadGlobal_builtin (M.glob.keeps bk1) ms (nb.keeps bk1) ((hbv _ (by decide)).trans Boot.«super») ⟨rfl, ?_⟩)
  refine wpAny_loadName_free hk lcl rfl ⟨_, X1 _ _ lcell, rfl⟩ ?_
  rw [har]
  refine wpAny_loadName_local hk ls hns ns_self ?_
  refine ks_wpAny_isType_cls hC1 rfl ⟨rfl, ?_⟩
  refine ks_wpAny_call_super hC1 rfl he1 rfl (fun c z => by cases z) (PySem.W.looks_mroIn X1 T.mro) (fun h₂ e2 k2 => ?_)
  have X2 : K.In h₂ := X1.keeps k2
  have he2 := k2 _ _ he1
  have I2 : PySem.W.InstAt h₂ e ({ cls := .ref C, data := .fields #[.ref t0, .none, .none, .none, .bool false, .none] } : Obj) C none := ⟨he2, rfl, rfl, trivial⟩
  have hxC : e ≠ C := PySem.W.ks_ne X2 I2 hcl
  have hI : PySem.W.Looks (model P w) h₂ (isInstance (.ref e) (.type "ValueError")) true := I2.type.andThen (PySem.W.looks_subIn X2 T.sub)
  have hmr : PySem.W.Looks (model P w) h₂ (mroOf (.ref C)) (.ref C :: bm) := (PySem.W.looks_clsIn X2 hcl).andThen .now
  have hsup : PySem.W.alongIn K "__init__" (((Value.ref C :: bm).dropWhile (· != .ref C)).drop 1) = some (some (.builtin "ValueError.__init__")) := by
    have z := T.sup
    unfold PySem.W.ks_superIn at z
    rw [hcl] at z
    exact z
  refine PySem.W.kxs_getMethod PySem.W.kxs_ValueError e2 (PySem.W.looks_opaque X2 T.opq) hmr rfl X2 hsup hI hxC (by decide) ?_
  have hu : (h₂.push (kxs_mw "ValueError.__init__" e)).get? h₂.objs.size = some (kxs_mw "ValueError.__init__" e) := Heap.get?_push_at rfl rfl
  have k3 : ∀ b o, h₂.get? b = some o → (h₂.push (kxs_mw "ValueError.__init__" e)).get? b = some o := fun b o z => Heap.get?_push_of_some _ z
  generalize (h₂.push (kxs_mw "ValueError.__init__" e)) = h₃ at *
  have ns3 : h₃.Ns L (fun x : Str => List.lookup x ([("self", Value.ref e), ("value", v)] : List (Str × Value)).reverse) := by
    obtain ⟨o, es, ep, z1, z2⟩ := hns
    exact ⟨o, es, ep, k3 _ _ (k2 _ _ z1), z2⟩
  have he3 := k3 _ _ he2
  have hC3 := k3 _ _ (k2 _ _ hC1)
  refine PySem.W.kxs_callWith (i := "ValueError.__init__") (x := e) (by rfl) ?_
  refine Calls.evalArgs_plain (Calls.spliced_cons (wpAny_Name (wpAny_loadName_local hk lv ns3 ns_val (Calls.spliced_nil ⟨hu, ?_⟩))))
  refine wpAny_call (codeAny_of_tree ?_)
  show wpAny _ (A.deeper _).in1 (callAny (.ref h₂.objs.size) ⟨[v], []⟩) _ _ _
  simp only [callAny]
  refine wpAny_bind (wpAny_load hu ?_)
  simp only [kxs_mw, show (Value.type "method-wrapper" == Value.type "method" || Value.type "method-wrapper" == Value.type "builtin_function_or_method" || Value.type "method-wrapper" == Value.type "method-wrapper") = true by decide, if_true]
  refine PySem.W.KFB.if_so (by decide) ?_
  refine wpAny_bind (PySem.W.check_bound_init F.excBase_ValueError.toExcCallFacts hC3 he3 rfl ?_)
  refine wpAny_bind (wpAny_pure (wpAny_pure ?_))
  refine ⟨plainId_quiet F.excBase_ValueError.init.plain _, codeAny_builtin F.excBase_ValueError.initEntry ?_⟩
  refine PySem.W.exc_init_tree (cls := .ref C) (t0 := t0) (dv := none) (c2 := .none) (c3 := .none) (b4 := .bool false) he3 (by rw [sizeLine_eq]; show 1 ≤ _; decide) (fun h₄ k4 he4 ht4 => ?_)
  have hq' : PySem.wpAt (model P w) (A.deeper (callEnv (PySem.W.fnX "__init__" qual params (supBody p0 p1 p2 p3 p4 p5 q1 q2 q3 q4) scope [("__class__", cc)] dV kV doc pm an (.ref cda) ct) L f)) (Code.func (supBody p0 p1 p2 p3 p4 p5 q1 q2 q3 q4) (callEnv (PySem.W.fnX "__init__" qual params (supBody p0 p1 p2 p3 p4 p5 q1 q2 q3 q4) scope [("__class__", cc)] dV kV doc pm an (.ref cda) ct) L f))
      (execs [Stmt.Assign [.Attribute (.Name "self" q1) "value" q2] (.Name "value" q3) q4] (callEnv (PySem.W.fnX "__init__" qual params (supBody p0 p1 p2 p3 p4 p5 q1 q2 q3 q4) scope [("__class__", cc)] dV kV doc pm an (.ref cda) ct) L f))
      (fun f s' => R (.ok (.ret (match f with | .ret v => v | _ => .none))) s') (fun _ _ => False) ⟨h₄, g, d, t + 2 + 1, os⟩ := by
    have ns4 : h₄.Ns L (fun x : Str => List.lookup x ([("self", Value.ref e), ("value", v)] : List (Str × Value)).reverse) := by
      obtain ⟨o, es, ep, z1, z2⟩ := ns3
      refine ⟨o, es, ep, k4 _ _ (fun z => ?_) z1, z2⟩
      subst z
      exact absurd (Heap.lt_size he) (by rw [hL]; exact Nat.lt_irrefl _)
    have X4 : K.In h₄ := fun a o z => k4 a o (fun q => by
      subst q
      have y := M.kin _ _ z
      rw [be] at y
      cases y) (k3 _ _ (k2 _ _ (X1 _ _ z)))
    refine ks_wpAt_execs_cons (wpAt_of_wpAny (plainObj_wpAny_Assign_Attribute (wpAny_Name (wpAny_loadName_local hk lv ns4 ns_val (wpAny_Name (wpAny_loadName_local hk ls ns4 ns_self ?_)))))) 
    have hC4 := X4 _ _ hC
    refine PySem.W.set_plain X4 (ox := { cls := .ref C, dict := none, data := .fields #[.ref h₃.objs.size, .none, .none, .none, .bool false, .none] }) (od := none) ⟨he4, rfl, rfl, trivial⟩ T.oex.sa ?_
    refine PySem.HandSPX.exc_osa X4 he4 hcl (show PySem.HandSPX.refsVE (.ref C :: bm) = true from hbm) rfl T.va (fun h' tk' dx k5' dn dne hx hn => ?_)
    have ks : ∀ b o, b ≠ e → hp.get? b = some o → h'.get? b = some o := fun b o z y => k5' b o z (k4 b o z (k3 _ _ (k2 _ _ (hk₁ _ _ y))))
    have le : hp.objs.size ≤ dx := by
      obtain ⟨o, es, ep, z1, z2⟩ := ns4
      have y := Heap.lt_size z1
      rw [hL]
      exact Nat.le_of_lt (Nat.lt_of_lt_of_le y dn)
    exact wpAt_of_wpAny (wpAny_execs_nil (hq h' tk' dx _ ks (by rw [← hL]; exact le) hx hn))
  exact ks_wpAt_mono hq' (fun _ _ z => z) (fun _ _ z => z.elim)
end
end VS

set_option Elab.async false
set_option linter.all false
set_option maxRecDepth 100000
set_option maxHeartbeats 4000000
namespace VS
open PySem PySem.Spec PyProof.Rows L2
open PySem.HandSPX (refsVE_contains excO)
section
variable {M : Model} {A : Around} {E : Value → Shared → Prop} {h : Heap} {g : Array GenState} {d : Drawn} {t : Nat} {os : OsState}
variable {nm q : Str} {C N : Addr} {bs bm : List Value} {hdct : Bool} {sn : List Str} {sub : List Value} {ab : Bool} {col : Option Bool} {dd : Option Addr} {k0 k1 k2 k3 k5 : Option Value}
end
end VS
namespace PySem
namespace VSX
open PySem.W PySem.Calls PyProof.Rows
open PySem.HandSPX (refsVE_contains excO)
section
variable {prog : Program} {w : World} {A : Around} {E : Value → Shared → Prop} {R : Result → Shared → Prop} {h : Heap} {g : Array GenState} {d : Drawn} {t : Nat} {os : OsState}
variable {nm q : Str} {C N : Addr} {bs bm : List Value} {hdct : Bool} {sn : List Str} {sub : List Value} {ab : Bool} {col : Option Bool} {dd : Option Addr} {k0 k1 k2 k3 k5 : Option Value}
end
end VSX
end PySem

set_option Elab.async false
set_option linter.all false
set_option maxRecDepth 100000
set_option maxHeartbeats 4000000
namespace VS
open PySem PySem.Spec PyProof.Rows L2
end VS

set_option Elab.async false
set_option linter.all false
set_option maxRecDepth 100000
set_option maxHeartbeats 4000000
namespace VS
open PySem PySem.Spec PyProof.Rows L2
section
variable {c : Ctx} {X : Cx} {x cn m0 : Str} {p pos apos kpos : Pos} {e : Expr} {kws : List Keyword} {k n t nf : Nat} {m : Mir} {ks : List Str} {is : List Nat}
end
end VS

set_option Elab.async false
set_option linter.all false
set_option maxRecDepth 100000
set_option maxHeartbeats 4000000
namespace VS
open PySem PySem.Spec PyProof.Rows L2
structure SupShape (st : Stmt) : Prop where
  body : ∃ p0 p1 p2 p3 p4 p5 q1 q2 q3 q4 : Pos, defBody st = supBody p0 p1 p2 p3 p4 p5 q1 q2 q3 q4 ∧ (p2.endLine == p4.line) = true
  par : ∃ ar : Arg, ((defArgs st).posonlyargs ++ (defArgs st).args).head? = some ar ∧ ar.arg = "self"
  ls : (defScope st).names.lookup ("self" : Str) = some .local
  lv : (defScope st).names.lookup ("value" : Str) = some .local
  lsu : (defScope st).names.lookup ("super" : Str) = some .globalImplicit
  lcl : (defScope st).names.lookup ("__class__" : Str) = some .free
  nc : ∀ x ∈ (defScope st).names, x.2 ≠ .cell
  co : (defScope st).isCoroutine = false
  gen : (defScope st).isGenerator = false
  kind : (defScope st).kind = .function
end VS

set_option Elab.async false
set_option linter.all false
set_option maxRecDepth 100000
set_option maxHeartbeats 4000000
namespace VS
open PySem PySem.Spec PyProof.Rows L2
theorem exq_ok {P : Program} {w : World} {H : Hp} {h : Heap} {a C dx : Addr} {ox : Obj} {fv : Array Value} (h1 : h.get? a = some ox) (h2 : ox.cls = .ref C) (h3 : ox.dict = some dx) (h4 : ox.data = .fields fv) : ObjOk P w H h a (exq a C dx) :=
  ⟨⟨ox, h1, h2, h3, fv, h4⟩, ⟨_, h1⟩, fun g1 g2 z k => by
    obtain ⟨o, q1, q2⟩ := z
    exact ⟨o, k _ q1, q2⟩⟩
theorem exq_at {P : Program} {w : World} {H : Hp} {h : Heap} {a C dx : Addr} (hok : HOk P w H h) (e : H a = some (exq a C dx)) : ∃ ox : Obj, h.get? a = some ox ∧ ox.cls = .ref C ∧ ox.dict = some dx ∧ ∃ fv, ox.data = .fields fv := by
  have x : ObjOk P w H h a (.ext fun h => ∃ ox : Obj, h.get? a = some ox ∧ ox.cls = .ref C ∧ ox.dict = some dx ∧ ∃ fv, ox.data = .fields fv) := hok a _ e
  exact x.1
theorem xd_at {P : Program} {w : World} {H : Hp} {h : Heap} {dx : Addr} {fs : List (Str × V)} (hok : HOk P w H h) (e : H dx = some (.xd fs)) : ∃ mA, h.Ns1 dx mA ∧ ∀ f, RelO (fs.lookup f) (mA f) := by
  have x : ObjOk P w H h dx (.xd fs) := hok dx _ e
  exact x
section
variable {X : Cx} {x : Str} {C f : Addr} {fd : FuncData} {p pos kpos : Pos} {e : Expr} {te : TE} {k : Nat}
end
end VS

set_option Elab.async false
set_option linter.all false
set_option maxRecDepth 100000
set_option maxHeartbeats 4000000
namespace VS
open PySem PySem.Spec PyProof.Rows L2
structure CalE (P : Program) (G : Gx) (mg : Str → Option Value) (x : Str) (k : Nat) : Prop where
  ex : ∃ (f : Addr) (fd : FuncData), SupC P G.K (G.cls k) f fd ∧ PySem.W.keepIn G.K (.ref (G.cls k)) = true ∧ mg x = some (.ref (G.cls k)) ∧ mg "super" = none ∧
    (∀ (s : Shared) (a v : Value), G.K.In s.heap → BindsTo s fd ⟨[a, v], []⟩ [("self", a), ("value", v)]) ∧ (∀ (s : Shared) (a v : Value), G.K.In s.heap → BindsTo s fd ⟨[a], [("value", v)]⟩ [("self", a), ("value", v)]) ∧
    (∀ (s : Shared) (a : Value), G.K.In s.heap → BindsTo s fd ⟨[a], []⟩ [("self", a), ("value", .none)])
section
variable {c : Ctx} {X : Cx} {x : Str} {p p2 pos kpos apos : Pos} {e : Expr} {se : SE} {k lv : Nat}
def gExV (ks : List Nat) : G1
  | .exc k d => if k ∈ ks then some d else none
  | _ => none
def XvAll (K : PySem.W.Frag) (G : Gx) (ks : List Nat) : Prop := ∀ k ∈ ks, XfC K (G.cls k) ∧ PySem.W.findIn K (.ref (G.cls k)) "value" = some none
theorem ve_exF {ks : List Nat} (T : XvAll c.G.K c.G ks) (hK : X.K = c.G.K) (he : PE X e (vt c se)) (hb : attributeBase e "value" X.env (eval e X.env) = eval e X.env := by rfl) : PE X (.Attribute e "value" apos) (vt c (s1 (gExV ks) se)) := by
  refine ⟨fun pins s σ H Q I h => ?_⟩
  obtain ⟨F, ρ, I0, d, ρ', e1, q⟩ := h
  obtain ⟨y, ey, eg⟩ := s1_inv e1
  unfold gExV at eg
  split at eg
  · rename_i k d0
    split at eg
    · rename_i hk
      cases eg
      obtain ⟨T1, T2⟩ := T k hk
      rw [← hK] at T1 T2
      refine attr_of hb (thn (he.run pins s σ H (fun v H1 => ∃ F1, Ext F F1 ∧ Ok c F1 H1 σ ρ' ∧ Rep c.G F1 v (.exc k d)) I ⟨F, ρ, I0, _, ρ', ey, fun v H1 F1 x1 I1 r1 => ⟨F1, x1, I1, r1⟩⟩) fun u s1 hh => ?_)
      obtain ⟨v, H1, I1, rx, F1, x1, J1, r1⟩ := hh
      cases r1 with
      | @exc a dx _ v' _ h1 h2 r =>
        obtain rfl : u = Value.ref a := rx
        obtain ⟨ox, g1, g2, g3, fv, g4⟩ := exq_at I1.hok (J1.fh _ _ h1)
        obtain ⟨mA, hns, hr⟩ := xd_at I1.hok (J1.fh _ _ h2)
        obtain ⟨od, ho, hl⟩ := lookIn_ns hns
        obtain ⟨u', hu, ru⟩ := RelO.some_of (v := v') (o := mA "value") (hr "value")
        have J : PySem.W.InstAt s1.heap a ox (c.G.cls k) (some od) := ⟨g1, g2, by unfold PySem.W.notCls; rw [g4] <;> rfl, by rw [g3]; exact ho⟩
        exact PySem.HandSPX.exc_get I1.kIn J T1.ga T1.gg T1.exC (PySem.W.findObj_own T1.hdC T2 rfl (by rw [hl, hu])) (handed_of ru) ⟨v', H1, I1.tok _, ru, q v' H1 F1 x1 J1 r⟩
    · cases eg
  · cases eg
end
end VS

set_option Elab.async false
set_option linter.all false
set_option maxRecDepth 100000
set_option maxHeartbeats 4000000
namespace VS
open PySem PySem.Spec PyProof.Rows L2
mutual
def shD (o : Addr → Option Str) : D → Option Str
  | .non => some "None"
  | .bl b => some (if b then "True" else "False")
  | .int i => if i.natAbs.log2 < 1920 then some (toString i) else none
  | .str x => some (reprText x)
  | .adr a => o a
  | .lst xs => match shDs o xs with
    | some ts => some (listText ts)
    | none => none
  | .tup xs => match shDs o xs with
    | some ts => some (tupleText ts)
    | none => none
  | .dct false [] [] => some (dictText [])
  | _ => none
def shDs (o : Addr → Option Str) : List D → Option (List Str)
  | [] => some []
  | d :: ds => match shD o d, shDs o ds with
    | some t, some ts => some (t :: ts)
    | _, _ => none
end
mutual
def dpD : D → Nat
  | .lst xs => dpDs xs + 1
  | .tup xs => dpDs xs + 1
  | .dct _ _ _ => 1
  | _ => 0
def dpDs : List D → Nat
  | [] => 0
  | d :: ds => max (dpD d) (dpDs ds)
end
theorem shD_lst {o : Addr → Option Str} {xs : List D} {t : Str} (h : shD o (.lst xs) = some t) : ∃ ts, shDs o xs = some ts ∧ t = listText ts := by
  unfold shD at h
  split at h
  · cases h; exact ⟨_, by assumption, rfl⟩
  · cases h
theorem shD_tup {o : Addr → Option Str} {xs : List D} {t : Str} (h : shD o (.tup xs) = some t) : ∃ ts, shDs o xs = some ts ∧ t = tupleText ts := by
  unfold shD at h
  split at h
  · cases h; exact ⟨_, by assumption, rfl⟩
  · cases h
theorem shDs_cons {o : Addr → Option Str} {d : D} {ds : List D} {ts : List Str} (h : shDs o (d :: ds) = some ts) : ∃ t us, shD o d = some t ∧ shDs o ds = some us ∧ ts = t :: us := by
  unfold shDs at h
  split at h
  · cases h; exact ⟨_, _, by assumption, by assumption, rfl⟩
  · cases h
structure OSh (P : Program) (w : World) (o : Addr → Option Str) (F : Hp) (h : Heap) : Prop where
  k : ∀ p t, o p = some t → ReprK P w [] h 0 (.ref p) t
  n1 : ∀ p t vs, o p = some t → F p ≠ some (.lst vs)
  n2 : ∀ p t vs, o p = some t → F p ≠ some (.tup vs)
  n3 : ∀ p t od u, o p = some t → F p ≠ some (.frz od u)
theorem OSh.no {P : Program} {w : World} {F : Hp} {h : Heap} : OSh P w (fun _ => none) F h := ⟨fun _ _ z => (by cases z), fun _ _ _ z => (by cases z), fun _ _ _ z => (by cases z), fun _ _ _ _ z => (by cases z)⟩
section
variable {G : Gx} {F H : Hp} {h : Heap} {P : Program} {w : World} {o : Addr → Option Str}
theorem dct_fz {a : Addr} {od : Obj} {ks : List NestedKey} {vs : List V} (x : DicAt G.w false (some od) F F a ks vs) : ∃ kvs : List (Key × V), F a = some (.frz od (.dK kvs)) ∧ ks = kvs.map (fun x => nkOf x.1) := by
  obtain ⟨kvs, h1, h2, _⟩ := x
  exact ⟨kvs, h1, h2⟩
mutual
theorem Rep.dp1 (O : OSh P w o F h) : ∀ {v : V} {d d' : D} {t t' : Str}, Rep G F v d → Rep G F v d' → shD o d = some t → shD o d' = some t' → dpD d = dpD d'
  | _, _, _, _, _, .non, r, _, _ => by cases r; rfl
  | _, _, _, _, _, .bl b, r, _, _ => by cases r; rfl
  | _, _, _, _, _, .int i, r, _, _ => by cases r; rfl
  | _, _, _, _, _, .str x, r, _, _ => by cases r; rfl
  | _, _, _, _, _, .adr a, r, h1, h2 => by
    have z : o a = some _ := h1
    cases r with
    | adr => rfl
    | lst q _ => exact absurd q (O.n1 _ _ _ z)
    | tup q _ => exact absurd q (O.n2 _ _ _ z)
    | scr _ _ => cases h2
    | ins _ _ _ => cases h2
    | exc _ _ _ => cases h2
    | bth _ => cases h2
    | @dct _ b od ks vs ds q _ =>
      cases b with
      | true => unfold shD at h2; cases h2
      | false =>
        obtain ⟨kvs, q1, _⟩ := dct_fz q
        exact absurd q1 (O.n3 _ _ _ _ z)
  | _, _, _, _, _, .lst q s, r, h1, h2 => by
    obtain ⟨ts, g1, _⟩ := shD_lst h1
    cases r with
    | adr => exact absurd q (O.n1 _ _ _ h2)
    | lst q' s' =>
      rw [q] at q'
      cases q'
      obtain ⟨us, g2, _⟩ := shD_lst h2
      simp only [dpD]
      rw [Reps.dp1 O s s' g1 g2]
    | tup q' s' => rw [q] at q'; cases q'
    | scr _ _ => cases h2
    | ins _ _ _ => cases h2
    | exc _ _ _ => cases h2
    | bth _ => cases h2
    | @dct _ b od ks vs ds q' _ =>
      cases b with
      | true => unfold shD at h2; cases h2
      | false =>
        obtain ⟨kvs, q1, _⟩ := dct_fz q'
        rw [q] at q1; cases q1
  | _, _, _, _, _, .tup q s, r, h1, h2 => by
    obtain ⟨ts, g1, _⟩ := shD_tup h1
    cases r with
    | adr => exact absurd q (O.n2 _ _ _ h2)
    | tup q' s' =>
      rw [q] at q'
      cases q'
      obtain ⟨us, g2, _⟩ := shD_tup h2
      simp only [dpD]
      rw [Reps.dp1 O s s' g1 g2]
    | lst q' s' => rw [q] at q'; cases q'
    | scr _ _ => cases h2
    | ins _ _ _ => cases h2
    | exc _ _ _ => cases h2
    | bth _ => cases h2
    | @dct _ b od ks vs ds q' _ =>
      cases b with
      | true => unfold shD at h2; cases h2
      | false =>
        obtain ⟨kvs, q1, _⟩ := dct_fz q'
        rw [q] at q1; cases q1
  | _, _, _, _, _, .dct (b := b) q s, r, h1, h2 => by
    cases b with
    | true => unfold shD at h1; cases h1
    | false =>
      obtain ⟨kvs, q1, _⟩ := dct_fz q
      cases r with
      | adr => exact absurd q1 (O.n3 _ _ _ _ h2)
      | tup q' s' => rw [q1] at q'; cases q'
      | lst q' s' => rw [q1] at q'; cases q'
      | scr _ _ => cases h2
      | ins _ _ _ => cases h2
      | exc _ _ _ => cases h2
      | bth _ => cases h2
      | dct _ _ => rfl
  | _, _, _, _, _, .scr _ _, _, h1, _ => by cases h1
  | _, _, _, _, _, .ins _ _ _, _, h1, _ => by cases h1
  | _, _, _, _, _, .exc _ _ _, _, h1, _ => by cases h1
  | _, _, _, _, _, .bth _, _, h1, _ => by cases h1
theorem Reps.dp1 (O : OSh P w o F h) : ∀ {vs : List V} {ds ds' : List D} {ts ts' : List Str}, Reps G F vs ds → Reps G F vs ds' → shDs o ds = some ts → shDs o ds' = some ts' → dpDs ds = dpDs ds'
  | _, _, _, _, _, .nil, r, _, _ => by cases r; rfl
  | _, _, _, _, _, .cons q s, r, h1, h2 => by
    cases r with
    | cons q' s' =>
      obtain ⟨_, _, g1, g2, _⟩ := shDs_cons h1
      obtain ⟨_, _, k1, k2, _⟩ := shDs_cons h2
      simp only [dpDs]
      rw [Rep.dp1 O q q' g1 k1, Reps.dp1 O s s' g2 k2]
end
def Sm (G : Gx) (F : Hp) (o : Addr → Option Str) (n : Nat) (bs : List Addr) : Prop := ∀ b ∈ bs, ∃ d t, Rep G F (.ref b) d ∧ shD o d = some t ∧ dpD d ≤ n
theorem Sm.mono {n m : Nat} {bs : List Addr} (h : Sm G F o n bs) (l : n ≤ m) : Sm G F o m bs := fun b hb => let ⟨d, t, a1, a2, a3⟩ := h b hb; ⟨d, t, a1, a2, Nat.le_trans a3 l⟩
theorem Sm.app {n : Nat} {bs cs : List Addr} (h : Sm G F o n bs) (k : Sm G F o n cs) : Sm G F o n (bs ++ cs) := fun b hb => (List.mem_append.mp hb).elim (h b) (k b)
theorem Sm.not {n : Nat} {bs : List Addr} {a : Addr} {d : D} {t : Str} (O : OSh P w o F h) (z : Sm G F o n bs) (r : Rep G F (.ref a) d) (hs : shD o d = some t) (l : n < dpD d) : a ∉ bs := fun hb => by
  obtain ⟨d', t', a1, a2, a3⟩ := z a hb
  rw [← Rep.dp1 O r a1 hs a2] at a3
  omega
theorem Sm.nil {n : Nat} : Sm G F o n [] := fun b hb => by cases hb
theorem Sm.con {n : Nat} {bs : List Addr} {a : Addr} {d : D} {t : Str} (z : Sm G F o n bs) (r : Rep G F (.ref a) d) (hs : shD o d = some t) (l : dpD d ≤ n) : Sm G F o n (a :: bs) := fun b hb => by
  rcases List.mem_cons.mp hb with e | hb
  · subst e; exact ⟨d, t, r, hs, l⟩
  · exact z b hb
end
section
variable {X : Cx} {G : Gx} {F H : Hp} {pins : List (Addr × Obj)} {σ : L2.St} {s : Shared} {o : Addr → Option Str}
theorem dct_raw (I : Inv X pins σ H s) (e : Ext F H) {a : Addr} {od : Obj} {vs : List V} (q : DicAt G.w false (some od) F F a [] vs) : ∃ (ob : Obj) (es : Array DictEntry) (n : Nat), s.heap.get? a = some ob ∧ ob.cls = .type "dict" ∧ ob.data = .dict es n ∧ (a == sysModules) = false ∧ es.toList = [] := by
  obtain ⟨kvs, h1, h2, h3, _⟩ := q
  have hk : kvs = [] := List.map_eq_nil_iff.mp h2.symm
  subst hk
  obtain ⟨_, hs, us, kr, ob, es, ep, g1, g2, g3, g4⟩ := (Rd.ok (.inr ⟨od, e _ _ h1⟩) I.hok : ObjOk X.prog X.w H s.heap a (.dK []))
  cases kr
  exact ⟨ob, es, ep, g1, g2.1, g3, hs, List.length_eq_zero_iff.mp (by have := g4.2.1.length; simpa using this)⟩
mutual
theorem Rep.shK (I : Inv X pins σ H s) (e : Ext F H) (O : OSh X.prog X.w o F s.heap) : ∀ {v : V} {d : D} {t : Str} {u : Value}, Rep G F v d → shD o d = some t → RelV v u → t.length ≤ sizeLine → ∃ bs, Sm G F o (dpD d) bs ∧ ReprK X.prog X.w bs s.heap (dpD d) u t
  | _, _, _, _, .non, h, r, _ => by cases h; cases r; exact ⟨[], .nil, .of_is ReprIs.none _ _ _⟩
  | _, _, _, _, .bl b, h, r, _ => by cases h; cases r; exact ⟨[], .nil, .of_is (ReprIs.bool b) _ _ _⟩
  | _, _, _, _, .int i, h, r, _ => by
    obtain ⟨tk, rfl⟩ := r
    unfold shD at h
    split at h
    · rename_i hz
      cases h
      exact ⟨[], .nil, .of_is (ReprIs.int tk hz) _ _ _⟩
    · cases h
  | _, _, _, _, .str x, h, r, hz => by
    obtain ⟨tk, rfl⟩ := r
    cases h
    exact ⟨[], .nil, .of_is (ReprIs.str x tk hz) _ _ _⟩
  | _, _, _, _, .adr a, h, r, _ => by
    cases r
    exact ⟨[], .nil, O.k _ _ h⟩
  | _, _, _, _, .lst (a := a) q k, h, r, hz => by
    cases r
    have rr := Rep.lst (G := G) q k
    obtain ⟨ts, g1, rfl⟩ := shD_lst h
    obtain ⟨its, rv, ⟨ob, n, ho, hc, _, hd⟩, _⟩ := I.list (.of (e _ _ q))
    obtain ⟨bs, hb, hk⟩ := Reps.shK I e O k g1 rv fun t ht => Nat.le_trans (listText_mem_le ht) hz
    have hna : a ∉ bs := hb.not O rr h (by simp only [dpD]; omega)
    refine ⟨a :: bs, (hb.mono (by simp only [dpD]; omega)).con rr h (Nat.le_refl _), ?_⟩
    simp only [dpD]
    cases its with
    | nil =>
      have e0 := hk.length_eq
      cases ts with
      | nil => rw [listText_nil]; exact (ReprK.listEmpty ho hc (by simpa using hd))
      | cons _ _ => simp at e0
    | cons x l => exact ReprK.list ho hc hd hna (by simpa using hk.length_eq) (fun i y e => hk.item i y (by simpa using e))
  | _, _, _, _, .tup (a := a) q k, h, r, hz => by
    cases r
    have rr := Rep.tup (G := G) q k
    obtain ⟨ts, g1, rfl⟩ := shD_tup h
    obtain ⟨its, rv, ⟨ob, ho, hc, n, hd⟩, _⟩ := I.tuple (.of (e _ _ q))
    obtain ⟨bs, hb, hk⟩ := Reps.shK I e O k g1 rv fun t ht => Nat.le_trans (tupleText_mem_le ht) hz
    have hna : a ∉ bs := hb.not O rr h (by simp only [dpD]; omega)
    refine ⟨a :: bs, (hb.mono (by simp only [dpD]; omega)).con rr h (Nat.le_refl _), ?_⟩
    simp only [dpD]
    exact ReprK.tuple ho hc hd hna (by simpa using hk)
  | _, _, t, _, .dct (a := a) (b := b) (ks := ks) q k, h, r, hz => by
    cases r
    have rr := Rep.dct (G := G) q k
    have h' := h
    cases b with
    | true => unfold shD at h; cases h
    | false =>
      unfold shD at h
      have hk : ks = [] ∧ t = dictText [] := by
        split at h <;> first | (cases h; done) | skip
        all_goals (rename_i e1; first | (cases e1; done) | (cases e1; cases h; exact ⟨rfl, rfl⟩))
      obtain ⟨rfl, rfl⟩ := hk
      obtain ⟨ob, es, n, g1, g2, g3, g4, g5⟩ := dct_raw I e q
      refine ⟨[a], Sm.nil.con rr h' (Nat.le_refl _), ?_⟩
      exact ReprK.dict g1 g2 g3 g4 (by simp) (by rw [g5]; exact .nil)
  | _, _, _, _, .scr _ _, h, _, _ => by cases h
  | _, _, _, _, .ins _ _ _, h, _, _ => by cases h
  | _, _, _, _, .exc _ _ _, h, _, _ => by cases h
  | _, _, _, _, .bth _, h, _, _ => by cases h
theorem Reps.shK (I : Inv X pins σ H s) (e : Ext F H) (O : OSh X.prog X.w o F s.heap) : ∀ {vs : List V} {ds : List D} {ts : List Str} {us : List Value}, Reps G F vs ds → shDs o ds = some ts → Vals vs us → (∀ t ∈ ts, t.length ≤ sizeLine) → ∃ bs, Sm G F o (dpDs ds) bs ∧ ReprAllK X.prog X.w bs s.heap (dpDs ds) us ts
  | _, _, _, _, .nil, h, r, _ => by
    cases r
    unfold shDs at h
    cases h
    exact ⟨[], .nil, .nil⟩
  | _, _, _, _, .cons q k, h, r, hz => by
    cases r with
    | cons r1 r2 =>
      obtain ⟨t, us, g1, g2, rfl⟩ := shDs_cons h
      obtain ⟨b1, hb1, k1⟩ := Rep.shK I e O q g1 r1 (hz _ List.mem_cons_self)
      obtain ⟨b2, hb2, k2⟩ := Reps.shK I e O k g2 r2 fun t ht => hz t (List.mem_cons_of_mem _ ht)
      refine ⟨b1 ++ b2, (hb1.mono (by simp only [dpDs]; omega)).app (hb2.mono (by simp only [dpDs]; omega)), ?_⟩
      simp only [dpDs]
      exact .cons ((k1.more fun b hb => List.mem_append_left _ hb).level_le (Nat.le_max_left _ _)) (k2.more_le (fun b hb => List.mem_append_right _ hb) (Nat.le_max_right _ _))
end
end
end VS

set_option Elab.async false
set_option linter.all false
set_option maxRecDepth 100000
set_option maxHeartbeats 4000000
namespace VS
open PySem PySem.Spec PyProof.Rows L2
def gShow (o : Addr → Option Str) : GL
  | [.adr _] => none
  | [d] => match shD o d with
    | some t => if t.length ≤ LN ∧ dpD d ≤ 50 then some (.str t) else none
    | none => none
  | _ => none
def XShow (X : Cx) (o : Addr → Option Str) : Prop := ∀ (pins : List (Addr × Obj)) (σ : L2.St) (H F : Hp) (s : Shared), Inv X pins σ H s → Ext F H → OSh X.prog X.w o F s.heap
theorem XShow.no {X : Cx} : XShow X fun _ => none := fun _ _ _ _ _ _ _ => .no
section
variable {c : Ctx} {X : Cx} {o : Addr → Option Str}
theorem ca_show (O : XShow X o) (hgd : X.A.guards = some []) (hu : X.A.units + 100 < cLine) : CaD c X (.builtin "repr") (gShow o) := by
  intro pins s σ H xs us Q I r ⟨F, ds, d, e, rr, hg, q⟩
  unfold gShow at hg
  split at hg
  · cases hg
  · rename_i d0 hna
    split at hg
    · rename_i t ht
      split at hg
      · rename_i hc
        cases hg
        have hz : t.length ≤ sizeLine := ln_fit hc.1
        cases rr with
        | cons r1 r2 =>
          cases r2
          cases r with
          | cons u1 u2 =>
            cases u2
            rename_i u0
            have fin : ∀ (tk : Nat) (tt : Tok), EP X pins σ Q (.str t tt) { s with toks := tk } := fun tk tt => ⟨.str t, H, I.tok tk, ⟨_, rfl⟩, q.here e (.str _)⟩
            have fin2 : ∀ (h' : Heap) (tt : Tok) (tk : Nat), (∀ b o, s.heap.get? b = some o → h'.get? b = some o) → EP X pins σ Q (.str t tt) { s with heap := h', toks := tk } := fun h' tt tk k => ⟨.str t, H, I.kept k, ⟨_, rfl⟩, q.here e (.str _)⟩
            have O' := O pins σ H F s I e
            cases r1 with
            | non => cases u1; cases ht; exact PySem.P.repr_of_none (fin _ _)
            | bl b => cases u1; cases ht; exact PySem.P.repr_of_bool (fin _ _)
            | int i =>
              obtain ⟨tk, rfl⟩ := u1
              unfold shD at ht
              split at ht
              · rename_i hi
                cases ht
                exact PySem.P.repr_of_int hi (fin _ _)
              · cases ht
            | str x =>
              obtain ⟨tk, rfl⟩ := u1
              cases ht
              exact PySem.P.repr_of_str (fin _ _) hz
            | adr a => exact absurd rfl (hna a)
            | @lst a vs ds q1 k1 =>
              cases u1
              have rr := Rep.lst (G := c.G) q1 k1
              obtain ⟨ts, g1, rfl⟩ := shD_lst ht
              obtain ⟨its, rv, ⟨ob, n, ho, hc', _, hd⟩, _⟩ := I.list (.of (e _ _ q1))
              obtain ⟨bs, hb, hk⟩ := Reps.shK I e O' k1 g1 rv fun t ht => Nat.le_trans (listText_mem_le ht) hz
              have hna : a ∉ bs := hb.not O' rr ht (by simp only [dpD]; omega)
              have hdp : dpDs ds + 1 ≤ 50 := hc.2
              refine call_repr_slot (by omega) ⟨ob, ho, hc'⟩ PySem.F.slot_list_repr.toG ?_
              cases its with
              | nil =>
                have e0 := hk.length_eq
                cases ts with
                | nil =>
                  rw [listText_nil] at fin2
                  exact call_list_repr_empty ⟨ob, ho, hc'⟩ ho (by simpa using hd) ⟨_, _, rfl, fin2 s.heap _ _ fun _ _ e => e⟩
                | cons _ _ => simp at e0
              | cons x l => exact call_list_reprK ho hc' hd hna (by simpa using hk.length_eq) (fun i y e => hk.item i y (by simpa using e)) hgd (fun b _ => Clear.nil b) (by show X.A.units + 1 + (dpDs ds + 1) < cLine; omega) (fun _ _ e => e) (fun h' u tk k => ⟨_, _, rfl, fin2 h' u tk k⟩) hz
            | @tup a vs ds q1 k1 =>
              cases u1
              have rr := Rep.tup (G := c.G) q1 k1
              obtain ⟨ts, g1, rfl⟩ := shD_tup ht
              obtain ⟨its, rv, ⟨ob, ho, hc', n, hd⟩, _⟩ := I.tuple (.of (e _ _ q1))
              obtain ⟨bs, hb, hk⟩ := Reps.shK I e O' k1 g1 rv fun t ht => Nat.le_trans (tupleText_mem_le ht) hz
              have hna : a ∉ bs := hb.not O' rr ht (by simp only [dpD]; omega)
              have hdp : dpDs ds + 1 ≤ 50 := hc.2
              refine call_repr_slot (by omega) ⟨ob, ho, hc'⟩ PySem.F.slot_tuple_repr ?_
              exact call_tuple_reprK ho hc' hd hna hk hgd (fun b _ => Clear.nil b) (by show X.A.units + 1 + (dpDs ds + 1) < cLine; omega) (fun _ _ e => e) (fun h' u tk k => ⟨_, _, rfl, fin2 h' u tk k⟩) hz
            | @dct a b od ks vs ds q1 k1 =>
              cases u1
              cases b with
              | true => unfold shD at ht; cases ht
              | false =>
                unfold shD at ht
                have hk : ks = [] ∧ t = dictText [] := by
                  split at ht <;> first | (cases ht; done) | skip
                  all_goals (rename_i e1; first | (cases e1; done) | (cases e1; cases ht; exact ⟨rfl, rfl⟩))
                obtain ⟨rfl, rfl⟩ := hk
                obtain ⟨ob, es, n, g1, g2, g3, g4, g5⟩ := dct_raw I e q1
                refine call_repr_slot (by omega) ⟨ob, g1, g2⟩ PySem.F.slot_dict_repr ?_
                exact call_dict_reprK (as := []) (d := 0) g1 g2 g3 g4 (by simp) (by rw [g5]; exact .nil) hgd (fun b _ => Clear.nil b) (by show X.A.units + 1 + (0 + 1) < cLine; omega) (fun _ _ e => e) (fun h' u tk k => ⟨_, _, rfl, fin2 h' u tk k⟩) hz
            | scr _ _ => cases ht
            | ins _ _ _ => cases ht
            | exc _ _ _ => cases ht
            | bth _ => cases ht
      · cases hg
    · cases hg
  · cases hg
def tEmpD : TE := fun _ H Q => ∀ p, H p = none → Q (.ref p) (upd H p (.frz { cls := .type "dict", data := .dict #[] } (.dK [])))
theorem pe_empD {pos : Pos} : PE X (.Dict [] [] pos) tEmpD := ⟨fun pins s σ H Q I h =>
  wpAny_Dict_empty ⟨.ref s.heap.objs.size, _, I.laid (a := s.heap.objs.size) (o := .frz { cls := .type "dict", data := .dict #[] } (.dK [])) (t' := s.toks) (fun _ _ q => Heap.get?_push_of_some _ q) (Nat.le_refl _)
    ⟨Heap.get?_push_size _ rfl, dk_empty s.heap I.big⟩, rfl, h _ (I.hok.fresh (Nat.le_refl _))⟩⟩
theorem ve_empD {pos : Pos} : PE X (.Dict [] [] pos) (vt c (sK (.dct false [] []))) := pe_of pe_empD fun σ H Q ⟨F, ρ, I, d, ρ', e, q⟩ p hp => by
  cases e
  have g := Grow.new (o := .frz { cls := .type "dict", data := .dict #[] } (.dK [])) I.fh hp
  exact q _ _ _ g.f (I.grow g) (.dct ⟨[], upd_same, rfl, rfl, Nat.zero_le _⟩ .nil)
def gIsTy2 (T : Nat) : G1
  | .dct false _ _ => some (.bl false)
  | d => gIsTy T d
theorem isTy2_rule (T : Nat) (hT : T < 5) {F H : Hp} {x : V} {d r : D} (e : Ext F H) (h : Rep c.G F x d) (hg : gIsTy2 T d = some r) : ∃ t b, TyX X.K H x t ∧ PySem.W.kitOne X.K t (.type (tyName T)) = some b ∧ r = .bl b := by
  unfold gIsTy2 at hg
  split at hg
  · cases hg
    cases h with
    | dct q _ =>
      obtain ⟨kvs, q1, _⟩ := dct_fz q
      refine ⟨_, false, .fDict (e _ _ q1), ?_, rfl⟩
      match T, hT with
      | 0, _ => exact kit_ty (by decide +kernel)
      | 1, _ => exact kit_ty (by decide +kernel)
      | 2, _ => exact kit_ty (by decide +kernel)
      | 3, _ => exact kit_ty (by decide +kernel)
      | 4, _ => exact kit_ty (by decide +kernel)
  · exact isTy_rule T hT e h hg
theorem ve_isTy2 {e : Expr} {x : Str} {s : SE} {p p2 pos : Pos} (T : Nat) (hT : T < 5) (hm : X.mg "isinstance" = none) (he : PE X e (vt c s)) (hm2 : X.mg x = none) (hv2 : bootBuiltins x = some (.type (tyName T))) (hg : Gl X "isinstance" := by rfl) (hg2 : Gl X x := by rfl)
    (n2 : x ≠ "__name__" := by decide) (d2 : (x == ("__debug__" : Str)) = false := by decide)
    (h1 : starEach [e, .Name x p2] X.env = (false, eval e X.env) :: starEach [.Name x p2] X.env := by rfl) (h2 : starEach [.Name x p2] X.env = (false, eval (.Name x p2) X.env) :: starEach [] X.env := by rfl)
    (hpl : (backTo pos (starEach [.Name x p2] X.env)).any (·.1) = false := by rfl) :
    PE X (.Call (.Name "isinstance" p) [e, .Name x p2] [] pos) (vt c (s1 (gIsTy2 T) s)) := by
  refine pe_of (pe_callB call_isi hg hm (by decide +kernel) (pa_cons he (pa_cons (pe_bltn (v := .ty (tyName T)) hg2 hm2 hv2 rfl n2 d2) pa_nil h2) h1) (by decide) (by decide) h1 hpl) fun σ H Q ⟨F, ρ, I, d, ρ', e, q⟩ => ?_
  obtain ⟨y, e1, e2⟩ := s1_inv e
  refine ⟨F, ρ, I, y, ρ', e1, fun v H1 F1 x1 I1 r1 => ?_⟩
  obtain ⟨t, b, g1, g2, g3⟩ := isTy2_rule (X := X) T hT I1.fh r1 e2
  subst g3
  exact ⟨v, .ty (tyName T), t, _, b, rfl, .ty _, g1, g2, q _ _ _ x1 I1 (.bl _)⟩
end
end VS

set_option Elab.async false
set_option linter.all false
set_option maxRecDepth 100000
set_option maxHeartbeats 4000000
namespace VS
open PySem PySem.Spec PyProof.Rows L2
def SupBinds (st : Stmt) (qual : Str) (args : Args) (r : List (Str × Value)) : Prop := ∀ (T cc : Addr) (kV doc pm ct cdv : Value) (an : Option Addr), ∃ k : Option (Array Value) → Sem (List (Str × Value)),
  bindArgs (PySem.W.fnX "__init__" qual (defArgs st) (defBody st) (defScope st) [("__class__", cc)] (.ref T) kV doc pm an cdv ct) args = seqItems? (.ref T) >>= k ∧ k (some #[.none]) = pure r
theorem calE_mk {P : Program} {G : Gx} {mg : Str → Option Value} {x qual : Str} {st : Stmt} {C f T cda cc : Addr} {oc : Value} {od an : Option Addr} {osl : Array (Option Value)} {kV doc pm ct : Value} {ccl : Value} {cdd : Option Addr} {vs : Array Value} {ccs : Array (Option Value)} {file : Str} {tf : Tok} {cl : Value} {cld : Option Addr} {csl : Array (Option Value)}
    {nm q : Str} {N : Addr} {bs bm : List Value} {sn : List Str} {sub : List Value} {ab : Bool} {col : Option Bool} {dd : Option Addr} {k0 k1 k2 k3 k5 : Option Value} {tc : Value} {td : Option Addr} {tn : Nat} {ts : Array (Option Value)} (k : Nat) (hk : G.cls k = C)
    (S : SupShape st) (B1 : ∀ a v : Value, SupBinds st qual ⟨[a, v], []⟩ [("self", a), ("value", v)]) (B2 : ∀ a v : Value, SupBinds st qual ⟨[a], [("value", v)]⟩ [("self", a), ("value", v)]) (B3 : ∀ a : Value, SupBinds st qual ⟨[a], []⟩ [("self", a), ("value", .none)]) (gm : mg x = some (.ref C)) (ms : mg "super" = none)
    (lk : G.K.lookup f = some ⟨oc, od, .func (PySem.W.fnX "__init__" qual (defArgs st) (defBody st) (defScope st) [("__class__", cc)] (.ref T) kV doc pm an (.ref cda) ct), osl⟩) (cd : PySem.W.codeIn G.K (.ref cda) qual = true)
    (lc : G.K.lookup cda = some ⟨ccl, cdd, .fields vs, ccs⟩) (lv2 : vs[2]? = some (.str file tf)) (lf : ((P.main.file : Str) == file) = true) (le : G.K.lookup cc = some ⟨cl, cld, .cell (some (.ref C)), csl⟩)
    (lt : G.K.lookup T = some ⟨tc, td, .seq #[.none] tn, ts⟩) (top : (P.main.scope.names.lookup ("super" : Str)).isSome = false)
    (lC : G.K.lookup C = some (excClassObj nm q C N bs bm true sn sub ab col dd k0 k1 k2 k3 k5 "ValueError.__new__")) (hbm : PySem.HandSPX.refsVE bm = true)
    (sa : PySem.W.findIn G.K (.ref C) "__setattr__" = some (some (.builtin "object.__setattr__"))) (exC : PySem.W.subIn G.K (.ref C) (.type "BaseException") = some true) (tyC : PySem.W.typeIn G.K (.ref C) = some (.type "type")) (kC : PySem.W.keepIn G.K (.ref C) = true)
    (sup : PySem.W.ks_superIn G.K C C "__init__" = some (some (.builtin "ValueError.__init__"))) (opq : PySem.W.nsIn G.K cStatics "thirdparty.any" = some none) (va : PySem.W.findIn G.K (.ref C) "value" = some none)
    (ini : PySem.W.findIn G.K (.ref C) "__init__" = some (some (.ref f))) (tyf : PySem.W.typeIn G.K (.ref f) = some (.type "function")) (mro : PySem.W.mroIn G.K C (.ref C) = some true) (sb : PySem.W.subIn G.K (.ref C) (.type "ValueError") = some true) : CalE P G mg x k := by
  have bd : ∀ (args : Args) (r : List (Str × Value)), SupBinds st qual args r → ∀ s : Shared, G.K.In s.heap → BindsTo s (PySem.W.fnX "__init__" qual (defArgs st) (defBody st) (defScope st) [("__class__", cc)] (.ref T) kV doc pm an (.ref cda) ct) args r := fun args r B s Y => by
    obtain ⟨k', e1, e2⟩ := B T cc kV doc pm ct (.ref cda) an
    exact PySem.W.binds_K Y rfl lt rfl e1 e2
  subst hk
  refine ⟨f, _, ⟨⟨oc, od, osl, lk⟩, ?_, top, ⟨⟨nm, q, N, bs, bm, sn, sub, ab, col, dd, k0, k1, k2, k3, k5, lC, hbm⟩, sa, exC, tyC, kC⟩, sup, opq, va, ini, tyf, mro, sb⟩, kC, gm, ms, fun s a v Y => bd _ _ (B1 a v) s Y, fun s a v Y => bd _ _ (B2 a v) s Y, fun s a Y => bd _ _ (B3 a) s Y⟩
  obtain ⟨p0, p1, p2, p3, p4, p5, q1, q2, q3, q4, eb, h24⟩ := S.body
  obtain ⟨ar, h1, h2⟩ := S.par
  exact ⟨qual, defArgs st, p0, p1, p2, p3, p4, p5, q1, q2, q3, q4, defScope st, .ref T, kV, doc, pm, ct, an, cda, cc, ar, by rw [eb], cd, h1, h2, h24, S.ls, S.lv, S.lsu, S.lcl, S.nc, S.co, S.gen, S.kind, ⟨ccl, cdd, vs, ccs, file, tf, lc, lv2, lf⟩, cl, cld, csl, le⟩
theorem xv_nil {K : PySem.W.Frag} {G : Gx} : XvAll K G [] := fun k h => by cases h
theorem xv_cons {K : PySem.W.Frag} {G : Gx} {k : Nat} {ks : List Nat} (h1 : XfC K (G.cls k)) (h2 : PySem.W.findIn K (.ref (G.cls k)) "value" = some none) (r : XvAll K G ks) : XvAll K G (k :: ks) := fun k' h => by
  rcases List.mem_cons.mp h with e | h
  · subst e; exact ⟨h1, h2⟩
  · exact r k' h
end VS

set_option Elab.async false
set_option linter.all false
set_option maxRecDepth 100000
set_option maxHeartbeats 4000000
namespace VS
open PySem PySem.Spec PyProof.Rows L2
def kOwnAdd (i : Nat) (a b : SE) : SS := fun ρ => match a ρ with
  | some (.lst xs, ρ1) => match b ρ1 with
    | some (.lst ys, ρ2) => if xs.length + ys.length ≤ LN then some (.nx, ρ2.set i (.own (xs ++ ys))) else none
    | _ => none
  | _ => none
section
variable {c : Ctx} {X : Cx}
theorem vs_ownAdd {i : Nat} {x : Str} {ea eb : Expr} {a b : SE} {p1 pos pos' : Pos} (hN : X.N.Nodup) (ha : PE X ea (vt c a)) (hb : PE X eb (vt c b)) (hi : X.N[i]? = some x := by rfl) (hx : Loc X.env.scope x := by first | exact Or.inl rfl | exact Or.inr rfl)
    (hs : swapsWith (.BinOp ea .Add eb p1) (some (.Name x pos')) pos.line X.env = pure false := by rfl) (hf : X.fn x = true ∨ X.env.scope.names.lookup x = some .local := by first | exact .inl rfl | exact .inr rfl) :
    PS X (.Assign [.Name x pos'] (.BinOp ea .Add eb p1) pos) (vs c (kOwnAdd i a b)) :=
  ps_of (ps_set hN hi hx (pe_op op_cat ha hb) hs hf) fun σ H E ⟨F, ρ, I, fl, ρ', e, q⟩ => by
    unfold kOwnAdd at e
    split at e
    · rename_i xs ρ1 e1
      split at e
      · rename_i ys ρ2 e2
        split at e
        · rename_i hl
          cases e
          refine ⟨F, ρ, I, .lst xs, ρ1, e1, fun v H1 F1 x1 I1 r1 => ⟨F1, ρ1, I1, .lst ys, ρ2, e2, fun w H2 F2 x2 I2 r2 => ?_⟩⟩
          have r1' := r1.ext x2
          cases r1' with
          | lst g1 s1 =>
            cases r2 with
            | lst g2 s2 => exact ⟨_, _, _, _, rfl, rfl, I2.fh _ _ g1, I2.fh _ _ g2, by rw [s1.length, s2.length]; exact ln_fit hl, fun p hp => q _ _ _ (x1.trans x2) (I2.fresh hp (s1.append s2) i)⟩
        · cases e
      · cases e
    · cases e
end
end VS

set_option Elab.async false
set_option linter.all false
set_option maxRecDepth 100000
set_option maxHeartbeats 4000000
namespace VS
open PySem PySem.Spec PyProof.Rows L2
def vsQ (G : Gx) (m : SS) : TS := fun E σ H => ∃ c : Ctx, c.G = G ∧ vs c m E σ H
def vbQ (G : Gx) (m : SB) : TT := fun σ H Q => ∃ c : Ctx, c.G = G ∧ vb c m σ H Q
def vtQ (G : Gx) (m : SE) : TE := fun σ H Q => ∃ c : Ctx, c.G = G ∧ vt c m σ H Q
section
variable {X : Cx} {G : Gx}
theorem ps_x {st : Stmt} {m : SS} (hh : ∀ c : Ctx, c.G = G → PS X st (vs c m)) : PS X st (vsQ G m) := ⟨fun pins s σ H Q I ⟨c0, hc, q⟩ => (hh c0 hc).run pins s σ H Q I q⟩
theorem pt_x {e : Expr} {m : SB} (hh : ∀ c : Ctx, c.G = G → PT X e (vb c m)) : PT X e (vbQ G m) := ⟨fun pins s σ H Q I ⟨c0, hc, q⟩ => (hh c0 hc).run pins s σ H Q I q⟩
theorem pe_x {e : Expr} {m : SE} (hh : ∀ c : Ctx, c.G = G → PE X e (vt c m)) : PE X e (vtQ G m) := ⟨fun pins s σ H Q I ⟨c0, hc, q⟩ => (hh c0 hc).run pins s σ H Q I q⟩
end
def rm1 (p : Addr) (F : Hp) : Hp := fun b => if b = p then none else F b
theorem rm1_ne {p b : Addr} {F : Hp} (h : b ≠ p) : rm1 p F b = F b := if_neg h
mutual
/-- no list of n things within -/
def noL (n : Nat) : D → Bool
  | .lst ds => (ds.length != n) && noLs n ds
  | .tup ds => noLs n ds
  | .ins _ ds => noLs n ds
  | .exc _ d => noL n d
  | .bth _ d => noL n d
  | .scr _ => false
  | .dct _ _ _ => false
  | _ => true
def noLs (n : Nat) : List D → Bool
  | [] => true
  | d :: ds => noL n d && noLs n ds
end
mutual
theorem Rep.rm {G : Gx} {F : Hp} {p : Addr} {us : List V} (hp : F p = some (.lst us)) : ∀ {v : V} {d : D}, Rep G F v d → noL us.length d = true → Rep G (rm1 p F) v d
  | _, _, .non, _ => .non
  | _, _, .bl b, _ => .bl b
  | _, _, .int i, _ => .int i
  | _, _, .str x, _ => .str x
  | _, _, .adr a, _ => .adr a
  | _, _, .lst (a := a) h r, z => by
    simp only [noL, Bool.and_eq_true] at z
    have ne : a ≠ p := fun e => by
      subst e
      rw [hp] at h
      cases h
      have := r.length
      rw [this] at z
      simp at z
    exact .lst (by rw [rm1_ne ne]; exact h) (Reps.rm hp r z.2)
  | _, _, .tup (a := a) h r, z => by
    have ne : a ≠ p := fun e => by subst e; rw [hp] at h; cases h
    exact .tup (by rw [rm1_ne ne]; exact h) (Reps.rm hp r z)
  | _, _, .ins (a := a) h n r, z => by
    have ne : a ≠ p := fun e => by subst e; rw [hp] at h; cases h
    exact .ins (by rw [rm1_ne ne]; exact h) n (Reps.rm hp r z)
  | _, _, .exc (a := a) (dx := dx) h h2 r, z => by
    have ne : a ≠ p := fun e => by subst e; rw [hp] at h; cases h
    have ne2 : dx ≠ p := fun e => by subst e; rw [hp] at h2; cases h2
    exact .exc (by rw [rm1_ne ne]; exact h) (by rw [rm1_ne ne2]; exact h2) (Rep.rm hp r z)
  | _, _, .bth r, z => .bth (Rep.rm hp r z)
  | _, _, .scr _ _, z => by cases z
  | _, _, .dct _ _, z => by cases z
theorem Reps.rm {G : Gx} {F : Hp} {p : Addr} {us : List V} (hp : F p = some (.lst us)) : ∀ {vs : List V} {ds : List D}, Reps G F vs ds → noLs us.length ds = true → Reps G (rm1 p F) vs ds
  | _, _, .nil, _ => .nil
  | _, _, .cons h r, z => by
    simp only [noLs, Bool.and_eq_true] at z
    exact .cons (Rep.rm hp h z.1) (Reps.rm hp r z.2)
end
def tAppR (i : Nat) (x : Str) : TS := fun E σ H => ∃ p us, σ[i]? = some (some (V.ref p)) ∧ H p = some (.lst us) ∧ us.length < sizeLine ∧ E.nx σ (upd H p (.lst (us ++ [.str x])))
theorem ps_appR {X : Cx} {i j : Nat} {x y : Str} {p0 cp apos cpos pos : Pos} (h : PE X (.Name x p0) (tVar i))
    (hbase : attributeBase (.Name x p0) "append" X.env (eval (.Name x p0) X.env) = eval (.Name x p0) X.env := by rfl)
    (hfew : ((backTo cpos (starEach [Expr.Constant (.str y) j cp] X.env)).all (fun x => !x.1) && (backToKw cpos (keywordEach [] X.env)).all (fun x => x.1.isSome)
      && decide ([Expr.Constant (.str y) j cp].length + ([] : List Keyword).length + (if ([] : List Keyword).isEmpty then 0 else 1) < 30)) = true := by rfl)
    (hline : (apos.endLine == cpos.line) = true := by rfl) (hst : starEach [Expr.Constant (.str y) j cp] X.env = (false, eval (.Constant (.str y) j cp) X.env) :: starEach [] X.env := by rfl) (hpl : (backTo cpos (starEach [] X.env)).any (·.1) = false := by rfl)
    (hs : swapsWith (.Call (.Attribute (.Name x p0) "append" apos) [.Constant (.str y) j cp] [] cpos) none pos.line X.env = pure false := by rfl) :
    PS X (.Expr (.Call (.Attribute (.Name x p0) "append" apos) [.Constant (.str y) j cp] [] cpos) pos) (tAppR i y) :=
  ps_of (ps_expr (pe_bm PySem.F.plainAttrs_list PySem.F.slot_list_append PySem.F.type_list_append (id := "list.append") (fun pins s σ H x xs v us Q I rx rv q => mt_append pins s σ H x xs v us Q I rx rv q) h (pa_cons pe_str pa_nil hst) hbase hfew hline hst hpl) hs) fun σ H E ⟨p, us, h1, h2, h3, q⟩ =>
    ⟨_, h1, .inl ⟨rfl, _, .of h2⟩, _, us, _, rfl, rfl, h2, h3, q⟩
end VS

set_option Elab.async false
set_option linter.all false
set_option maxRecDepth 100000
set_option maxHeartbeats 4000000
namespace VS
open PySem PySem.Spec PyProof.Rows L2
section
variable {X : Cx} {pins : List (Addr × Obj)} {σ : L2.St} {H : Hp} {s : Shared} {a C dx : Addr} {oe : Obj} {vs : Array Value}
theorem inv_track (I : Inv X pins σ H s) (ha : s.heap.get? a = some oe) (h1 : oe.cls = .ref C) (h2 : oe.dict = some dx) (h3 : oe.data = .fields vs) (na : H a = none) (n0 : X.s_0.heap.get? a = none) (nL : a ≠ X.env.locals) (np : ∀ p ∈ X.pn ++ pins, p.1 ≠ a) :
    Inv X pins σ (upd H a (exq a C dx)) s where
  ok := I.ok
  os := I.os
  bare := I.bare
  base := {
    keep := I.base.keep
    slot := I.base.slot
    free := fun b o e n x => by
      have z : b ≠ a := fun z => by rw [z, n0] at e; cases e
      rw [upd_ne z]
      exact I.base.free b o e n x
    there := I.base.there
    tups := fun b xs e => by
      have k := I.base.tups b xs e
      have z : b ≠ a := fun z => by rw [z, na] at k; cases k
      rw [upd_ne z]
      exact k
    frzs := fun b u v e => by
      have k := I.base.frzs b u v e
      have z : b ≠ a := fun z => by rw [z, na] at k; cases k
      rw [upd_ne z]
      exact k
    tbls := fun b ps e => by
      obtain ⟨m, k⟩ := I.base.tbls b ps e
      have z : b ≠ a := fun z => by rw [z, na] at k; cases k
      exact ⟨m, by rw [upd_ne z]; exact k⟩ }
  loc := I.loc
  cell := I.cell
  free := by rw [upd_ne (Ne.symm nL)]; exact I.free
  freeC := fun x c e => by
    have z : c ≠ a := fun z => by
      obtain ⟨v, oc, e1, e2⟩ := I.cell x c e
      rw [z, ha] at e1
      cases e1
      rw [h3] at e2
      cases e2
    rw [upd_ne z]
    exact I.freeC x c e
  pin := fun p hp => by
    obtain ⟨k1, k2, k3⟩ := I.pin p hp
    exact ⟨k1, by rw [upd_ne (np p hp)]; exact k2, k3⟩
  hok := fun b o e => by
    by_cases z : b = a
    · subst z
      rw [upd_same] at e
      cases e
      exact exq_ok ha h1 h2 h3
    · rw [upd_ne z] at e
      have ne : ∀ y u, H y = some u → y ≠ a := fun y u k q => by rw [q, na] at k; cases k
      exact (I.hok b o e).stay (fun _ _ _ k => k) (fun y k => by rw [upd_ne (ne _ _ k)]; exact k) fun y xs k => by rw [upd_ne (ne _ _ k)]; exact k
  len := I.len
end
def wKeep (K : PySem.W.Frag) (c : Value) (i j : Nat) (Wout : WX) (D : Ends) : WX := fun cls d σ H => ∃ b, PySem.W.exmOne K cls c = some b ∧ (b = false → Wout cls d σ H) ∧
  (b = true → ∃ C dx, cls = .ref C ∧ d = some dx ∧ ∀ a, H a = none → D.nx (((σ.set i (some (V.ref a))).set j (some (V.ref a))).set i none) (upd H a (exq a C dx)))
section
variable {X : Cx} {x n : Str} {c : Value} {i j : Nat} {body : List Stmt} {keep : Stmt} {np pos pos' : Pos} {tb : WX → TS} {Wout : WX}
theorem ps_tryKeep (hex : X.ex = []) (hs : X.stack = X.env :: X.outer) (hf : X.env.frame = some X.env.locals) (hN : X.N.Nodup) (hi : X.N[i]? = some n) (hln : X.env.kindOf n = some .local) (hc : Names X x c) (tk : Takes X Wout)
    (hb : ∀ (W : WX) (ps : List (Addr × Obj)) (xe : Value → Shared → Prop), Takes (X.tr ps xe) W → PassesOwn (model X.prog X.w) X.A X.env xe → PSs (X.tr ps xe) body (tb W))
    (hk : ∀ (a : Addr) (oe : Obj) (ps : List (Addr × Obj)), PS (X.suite a ((a, oe) :: ps)) keep (tAsg (tVar i) (gName j))) :
    PS X (.Try body [.ExceptHandler (some (.Name x np)) (some n) [keep] pos'] [] [] pos) (fun D σ H => tb (wKeep X.K c i j Wout D) D σ H) := by
  refine ⟨fun pins s σ H D I h => ?_⟩
  have ok := I.ok
  have frame : X.A.frames = some (X.env :: X.outer) := by rw [ok.frames, hs]
  -- the body, with the catching as its wish
  have T : Takes (X.tr (X.pn ++ pins) fun e s1 => wpAny (model X.prog X.w) X.A (noteFrame e X.env) (fun _ s2 => wpAny (model X.prog X.w) X.A (setFlight e none) (fun _ s3 =>
      wpAny (model X.prog X.w) X.A (handleBy e X.env [.ExceptHandler (some (.Name x np)) (some n) [keep] pos']) (SP X pins D) X.xe s3) X.xe s2) X.xe s1) (wKeep X.K c i j Wout D) := fun u s' E => by
    obtain ⟨a, B, sI, pins', σ', H', cls, d, rfl, J', ground, up, sky, na, os, ag, b, hb1, hno, hyes⟩ := E
    have J : Inv X pins σ' H' sI := J'.ofTry ok
    rw [show (X.tr (X.pn ++ pins) _).stack = X.env :: X.outer from hs] at sky
    refine Sky.land Zc.steady frame hf sky fun h3 fl3 up3 => ?_
    have J3 : Inv X pins σ' H' { s' with heap := h3 } := J.landed ground fl3.1 (up.trans up3) os ag
    obtain ⟨o3, v3, e3, z3, d3⟩ := fl3.there
    -- it is none of the frames
    have notFrame : a ∉ frs (X.env :: X.outer) := fun hm => by
      obtain ⟨_, o', e', hnf⟩ := fl3.2.2.1.mem hm
      rw [e3] at e'
      cases e'
      exact hnf _ d3
    have nL : a ≠ X.env.locals := fun z => notFrame (List.mem_filterMap.mpr ⟨X.env, List.mem_cons_self, by rw [hf, z]⟩)
    have nF : a ∉ X.fs := fun hm => by
      obtain ⟨e, he, q⟩ := List.mem_filterMap.mp hm
      exact notFrame (List.mem_filterMap.mpr ⟨e, List.mem_cons_of_mem _ he, q⟩)
    -- it is new since the def's entry, and since the try
    have newI : sI.heap.get? a = none := by
      cases q : sI.heap.get? a with
      | none => rfl
      | some o =>
        have z := ground a o q (by rw [show (X.tr (X.pn ++ pins) _).stack = X.env :: X.outer from hs]; exact notFrame)
        rw [fl3.2.1] at z
        cases z
    have new0 : X.s_0.heap.get? a = none := by
      cases q : X.s_0.heap.get? a with
      | none => rfl
      | some o =>
        obtain ⟨o', e'⟩ := J.base.there a o q (by rw [hex]; exact List.not_mem_nil)
        rw [newI] at e'
        cases e'
    have newP : ∀ p ∈ X.pn ++ pins, p.1 ≠ a := fun p hp z => by
      have k := (J.pin p hp).1
      rw [z, newI] at k
      cases k
    have S3 := J3.suite e3 d3 na nL nF
    refine wpAny_handleBy_cons (codeAny_handlers_test ?_) (by intro q; cases q)
    have LT : PySem.W.Looks (model X.prog X.w) h3 (typeOf (.ref a)) cls := fun A Q E s k q => wpAny_typeOf_ref (k _ _ e3) (by rw [z3.1]; exact q)
    have LM := PySem.W.exm_one (M := model X.prog X.w) J3.kIn LT hb1
    have named : ∀ {Q : Value → Shared → Prop} {E : Value → Shared → Prop}, Q c { s' with heap := h3 } → wpAny (model X.prog X.w) (X.A.mark (some (.ref a))) (eval (.Name x np) X.env) Q E { s' with heap := h3 } := fun {Q E} q => by
      obtain ⟨hg, hdb, hm | ⟨hm, hv, hnn⟩⟩ := hc
      · exact ld_glob (X := X.suite a ((a, o3) :: (X.pn ++ pins))) S3 hg hm q hdb
      · exact ld_blt (X := X.suite a ((a, o3) :: (X.pn ++ pins))) S3 hg hm hv q hnn hdb
    refine named (LM.here ?_)
    cases b with
    | true =>
      obtain ⟨C, dx, rfl, rfl, hend⟩ := hyes rfl
      refine codeAny_handlers_suite_as (HandSPX.lands_againZ fl3 fun h4 fl4 up4 => ?_)
      have J4 : Inv X pins σ' H' { s' with heap := h4 } := J.landed ground fl4.1 ((up.trans up3).trans up4) os ag
      obtain ⟨o4, v4, e4, z4, d4⟩ := fl4.there
      have S4 := J4.suite e4 d4 na nL nF
      refine store_ok (X := X.suite a ((a, o4) :: (X.pn ++ pins))) (v := .ref a) S4 hN hi (.inl hln) rfl (fun s5 S5 => ?_) (.inr hln)
      have hl5 : i < (σ'.set i (some (V.ref a))).length := by
        have := (List.getElem?_eq_some_iff.mp hi).1
        rw [S5.len]
        exact this
      have run := (pss_one (hk a o4 (X.pn ++ pins))).run [] s5 _ H' { nx := fun σ6 H6 => σ6 = (σ'.set i (some (V.ref a))).set j (some (V.ref a)) ∧ H6 = H', rt := fun _ _ => False } S5
        ⟨V.ref a, by rw [List.getElem?_set_self (by rw [List.length_set] at hl5; exact hl5)], rfl, rfl⟩
      refine wpAny_mono run (fun f s6 q => ?_) fun _ _ z => False.elim z
      match f, q with
      | .next, ⟨σ6, H6, S6, e6, e7⟩ =>
        subst e6 e7
        refine gone_ok (X := X.suite a ((a, o4) :: (X.pn ++ pins))) S6 hN hi hln fun s7 S7 => ?_
        have k7 := (S7.pin (a, o4) (List.mem_append_left _ List.mem_cons_self)).1
        have J7 : Inv X pins _ H6 s7 := S7.unsuite ok
        exact ⟨_, _, inv_track J7 k7 z4.1 z4.2 d4 na new0 nL newP, hend a na⟩
      | .brk, ⟨_, _, _, z⟩ => exact z.elim
      | .cont, ⟨_, _, _, z⟩ => exact z.elim
      | .ret u, ⟨_, _, _, _, _, z⟩ => exact z.elim
    | false =>
      refine wpAny_handleBy_nil ?_
      obtain ⟨_, _, _, oh, vh, T, oT, th, eh, zh, dh, g1, _⟩ := id fl3
      unfold PySem.passOn
      refine wpAny_bind (wpAny_field eh dh g1 ?_)
      rw [if_neg (show ¬ ((Value.ref T == Value.none) = true) from by simp)]
      have out : wpAny (model X.prog X.w) X.A (setFlight (.ref a) X.env.frame) (fun _ s4 => wpAny (model X.prog X.w) X.A (throw (.ref a) : Sem Flow) (SP X pins D) X.xe s4) X.xe { s' with heap := h3 } := by
        rw [hf]
        refine HandSPX.setFlight_upZ fl3 fun h4 hh4 up4 => wpAny_throw (tk _ _ ?_)
        exact ⟨a, B, sI, pins, σ', H', cls, d, rfl, J, ground, (up.trans up3).trans up4, .inr (.inr (by rw [hs]; exact hh4)), na, os, ag, hno rfl⟩
      first
        | exact wpAny_bind (wpAny_pure (wpAny_bind out))
        | exact wpAny_bind out
  refine wpAny_Try_except (wpAny_mono ((hb _ _ _ T PassesOwn.looking).run [] s σ H D (I.toTry _) h) (fun f s1 q => ?_) fun e s1 he => he)
  match f, q with
  | .next, ⟨σ', H', J', q⟩ => exact wpAny_execs_nil ⟨σ', H', J'.ofTry ok, q⟩
  | .brk, ⟨σ', H', J', q⟩ => exact ⟨σ', H', J'.ofTry ok, q⟩
  | .cont, ⟨σ', H', J', q⟩ => exact ⟨σ', H', J'.ofTry ok, q⟩
  | .ret u, ⟨v, σ', H', J', r, q⟩ => exact ⟨v, σ', H', J'.ofTry ok, r, q⟩
end
end VS

set_option Elab.async false
set_option linter.all false
set_option maxRecDepth 100000
set_option maxHeartbeats 4000000
namespace VS
open PySem PySem.Spec PyProof.Rows L2
inductive Rz where
  | go (fl : Fl) (ρ : Rho) | xc (k : Nat) (d : D) (ρ : Rho)
abbrev SX := Rho → Option Rz
inductive Re where
  | v (d : D) (ρ : Rho) | xc (k : Nat) (d : D) (ρ : Rho)
abbrev EX := Rho → Option Re
def xEnd (c : Ctx) (W : WX) (E : Ends) (F : Hp) : Rz → Prop
  | .go fl ρ' => vEnd c E F fl ρ'
  | .xc k d ρ' => ∀ σ' H' F' dx v, Ext F F' → Ok c F' H' σ' ρ' → F' dx = some (.xd [("value", v)]) → Rep c.G F' v d → W (.ref (c.G.cls k)) (some dx) σ' H'
def vx (c : Ctx) (W : WX) (s : SX) : TS := fun E σ H => ∃ F ρ, Ok c F H σ ρ ∧ ∃ r, s ρ = some r ∧ xEnd c W E F r
def rEnd (c : Ctx) (W : WX) (Q : VK) (F : Hp) (σ : L2.St) : Re → Prop
  | .v d ρ' => ∀ v H' F', Ext F F' → Ok c F' H' σ ρ' → Rep c.G F' v d → Q v H'
  | .xc k d ρ' => ∀ H' F' dx v, Ext F F' → Ok c F' H' σ ρ' → F' dx = some (.xd [("value", v)]) → Rep c.G F' v d → W (.ref (c.G.cls k)) (some dx) σ H'
def vr (c : Ctx) (W : WX) (s : EX) : TE := fun σ H Q => ∃ F ρ, Ok c F H σ ρ ∧ ∃ r, s ρ = some r ∧ rEnd c W Q F σ r
theorem xEnd.ext {c : Ctx} {W : WX} {E : Ends} {F F' : Hp} {r : Rz} (h : xEnd c W E F r) (e : Ext F F') : xEnd c W E F' r := by
  cases r with
  | go fl ρ => exact vEnd.ext h e
  | xc k d ρ => exact fun σ' H' F2 dx v x => h σ' H' F2 dx v (e.trans x)
theorem rEnd.ext {c : Ctx} {W : WX} {Q : VK} {F F' : Hp} {σ : L2.St} {r : Re} (h : rEnd c W Q F σ r) (e : Ext F F') : rEnd c W Q F' σ r := by
  cases r with
  | v d ρ => exact fun v H2 F2 x => h v H2 F2 (e.trans x)
  | xc k d ρ => exact fun H2 F2 dx v x => h H2 F2 dx v (e.trans x)
def xGo (s : SS) : SX := fun ρ => match s ρ with
  | some (fl, ρ') => some (.go fl ρ')
  | none => none
def xN : SX := fun ρ => some (.go .nx ρ)
def xS (a b : SX) : SX := fun ρ => match a ρ with
  | some (.go .nx ρ1) => b ρ1
  | r => r
def xIf (t : SB) (a b : SX) : SX := fun ρ => match t ρ with
  | some (true, ρ1) => a ρ1
  | some (false, ρ1) => b ρ1
  | none => none
def xRaise (k : Nat) (e : SE) : SX := fun ρ => match e ρ with
  | some (d, ρ1) => some (.xc k d ρ1)
  | none => none
def xDrop (e : EX) : SX := fun ρ => match e ρ with
  | some (.v _ ρ1) => some (.go .nx ρ1)
  | some (.xc k d ρ1) => some (.xc k d ρ1)
  | none => none
section
variable {c : Ctx} {X : Cx} {W : WX}
theorem go_w {s : SS} (σ : L2.St) (H : Hp) (E : Ends) (h : vx c W (xGo s) E σ H) : vs c s E σ H := by
  obtain ⟨F, ρ, I, r, e, q⟩ := h
  unfold xGo at e
  split at e
  · cases e; exact ⟨F, ρ, I, _, _, by assumption, q⟩
  · cases e
theorem x_go {st : Stmt} {s : SS} (h : PS X st (vs c s)) : PS X st (vx c W (xGo s)) := ps_of h go_w
theorem x_nil : PSs X [] (vx c W xN) := pss_of pss_nil fun σ H E ⟨F, ρ, I, r, e, q⟩ => by cases e; exact q σ H F Ext.rfl' I
theorem x_one {st : Stmt} {s : SX} (h : PS X st (vx c W s)) : PSs X [st] (vx c W s) := pss_one h
theorem x_cons {st : Stmt} {r : List Stmt} {a b : SX} (h1 : PS X st (vx c W a)) (h2 : PSs X r (vx c W b)) : PSs X (st :: r) (vx c W (xS a b)) := pss_of (pss_cons h1 h2) fun σ H E ⟨F, ρ, I, r, e, q⟩ => by
  unfold xS at e
  split at e
  · rename_i ρ1 e1
    exact ⟨F, ρ, I, _, e1, fun σ1 H1 F1 x1 I1 => ⟨F1, ρ1, I1, r, e, q.ext x1⟩⟩
  · rename_i e0
    refine ⟨F, ρ, I, r, e, ?_⟩
    cases r with
    | xc k d ρ' => exact q
    | go fl ρ' =>
      cases fl with
      | nx => exact absurd e (e0 _)
      | rt d => exact q
      | bk => exact q
      | ct => exact q
      | rm xs => exact q
theorem x_if {t : Expr} {a b : List Stmt} {st : SB} {sa sb : SX} {pos} (ht : PT X t (vb c st)) (ha : PSs X a (vx c W sa)) (hb : PSs X b (vx c W sb)) : PS X (.If t a b pos) (vx c W (xIf st sa sb)) :=
  ps_of (ps_if ht ha hb) fun σ H E ⟨F, ρ, I, r, e, q⟩ => by
    unfold xIf at e
    split at e
    · rename_i ρ1 e1
      exact ⟨F, ρ, I, true, ρ1, e1, fun H1 F1 x1 I1 => iteT ⟨F1, ρ1, I1, r, e, q.ext x1⟩⟩
    · rename_i ρ1 e1
      exact ⟨F, ρ, I, false, ρ1, e1, fun H1 F1 x1 I1 => iteF ⟨F1, ρ1, I1, r, e, q.ext x1⟩⟩
    · cases e
theorem x_drop {e : Expr} {s : EX} {pos : Pos} (h : PE X e (vr c W s)) (hs : swapsWith e none pos.line X.env = pure false := by rfl) : PS X (.Expr e pos) (vx c W (xDrop s)) :=
  ps_of (ps_expr h hs) fun σ H E ⟨F, ρ, I, r, e, q⟩ => by
    unfold xDrop at e
    split at e
    · rename_i d ρ1 e1
      cases e
      exact ⟨F, ρ, I, _, e1, fun v H1 F1 x1 I1 _ => q σ H1 F1 x1 I1⟩
    · rename_i k d ρ1 e1
      cases e
      exact ⟨F, ρ, I, _, e1, fun H1 F1 dx v x1 I1 g r1 => q σ H1 F1 dx v x1 I1 g r1⟩
    · cases e
end
section
variable {X : Cx} {x : Str} {C f : Addr} {fd : FuncData} {p pos : Pos} {e : Expr} {te : TE} {k : Nat}
theorem pmk_sup (T : SupC X.prog X.K C f fd) (hb : ∀ (s : Shared) (a v : Value), X.K.In s.heap → BindsTo s fd ⟨[a, v], []⟩ [("self", a), ("value", v)]) (kp : PySem.W.keepIn X.K (.ref C) = true) (hr : Room (k + 1) X.A) (hg : Gl X x) (hm : X.mg x = some (.ref C)) (ms : X.mg "super" = none) (he : PE X e te)
    (hdb : (x == ("__debug__" : Str)) = false := by decide) (hst : starEach [e] X.env = (false, eval e X.env) :: starEach [] X.env := by rfl) (hpl : (backTo pos (starEach [] X.env)).any (·.1) = false := by rfl) :
    PMk X (.Call (.Name x p) [e] [] pos) (fun σ H Q => tCons te tNil σ H fun vs H1 => ∃ v, vs = [v] ∧ ∀ dx, H1 dx = none → Q (.ref C) (some dx) (upd H1 dx (.xd [("value", v)]))) := by
  intro pins s σ H Q I h
  obtain ⟨nm, qn, N, bs, bm, sn, sub, ab, col, dd, k0, k1, k2, k3, k5, hC, hbm⟩ := T.oex.cls
  refine wpAny_Call_Name_kw (ld_glob I hg hm ?_ hdb)
  refine PySem.W.callWith_K (h₀ := X.base) I.ok.mod.kin kp (thn ((pa_cons he pa_nil hst).run pos pins s σ H _ I h) fun us s2 ⟨vs, H2, I2, rz, v, ez, qv⟩ => ⟨I2.kIn, ?_⟩) hst hpl
  subst ez
  cases rz with
  | @cons _ u0 _ ur ra rn =>
    cases rn
    show wpAny _ _ (call (.ref C) [u0]) _ _ _
    have bk := I2.bk
    have KX := I2.kIn
    have fresh : ∀ n, s2.heap.objs.size ≤ n → X.base.get? n = none := fun n hn => by
      cases z : X.base.get? n with
      | none => rfl
      | some o => exact absurd (Heap.lt_size (bk _ _ z)) (Nat.not_lt.mpr hn)
    obtain ⟨hp, g, dr, tk, os⟩ := s2
    have k1 : ∀ b o, hp.get? b = some o → ((hp.push (PySem.W.kdv_tup [u0])).push (PySem.HandSPX.excO C hp.objs.size)).get? b = some o := fun b o z => Heap.get?_push_of_some _ (Heap.get?_push_of_some _ z)
    have hget : ((hp.push (PySem.W.kdv_tup [u0])).push (PySem.HandSPX.excO C hp.objs.size)).get? (hp.objs.size + 1) = some (PySem.HandSPX.excO C hp.objs.size) := by heap_get
    have hroom : (X.A.under (.builtin "type.__call__" ⟨[.ref C, u0], []⟩)).depth < recursionLimit := (hr.make C [u0] []).depth
    have hsz : hp.objs.size ≤ ((hp.push (PySem.W.kdv_tup [u0])).push (PySem.HandSPX.excO C hp.objs.size)).objs.size := by rw [Heap.size_push, Heap.size_push]; omega
    refine wpAny_call (PySem.HandSPX.call_own F.excBase_ValueError (fun Y => PySem.HandSPX.refsVE_contains Y bm hbm) (KX _ _ hC) (PySem.W.looks_findIn KX T.ini) (fun self => PySem.W.bind_fn KX self T.tyf) (by rw [sizeLine_eq]; show 1 ≤ _; decide) (sup_init T I.ok.mod (fun b o z => k1 b o (bk b o z)) (fresh _ (Nat.le_succ _)) ms hroom hget (hb _ _ _ (KX.keeps k1)) (fun h' tk' dx t1 ks le hx hn => ⟨rfl, ?_⟩)))
    -- the exception set apart: all else is a state of ours
    have kk : ∀ b o, hp.get? b = some o → h'.get? b = some o := fun b o z => ks b o (fun y => by
      subst y
      exact absurd (Heap.lt_size z) (Nat.not_lt.mpr (Nat.le_succ _))) (k1 b o z)
    have ne : hp.objs.size + 1 ≠ dx := fun z => by
      obtain ⟨o, es, ep, e1, e2, _⟩ := hn
      rw [← z, hx] at e1
      cases e1
      cases e2
    obtain ⟨Gh, g1, g2⟩ := L2.restrict h' fun b => b != hp.objs.size + 1
    have gk : ∀ b o, hp.get? b = some o → Gh.get? b = some o := fun b o z => by
      rw [g1 b (by simpa using Nat.ne_of_lt (Nat.lt_succ_of_lt (Heap.lt_size z)))]
      exact kk b o z
    have f2 := I2.hok.fresh (show hp.objs.size ≤ dx from Nat.le_trans hsz le)
    have f1 := I2.hok.fresh (show hp.objs.size ≤ hp.objs.size + 1 from Nat.le_succ _)
    have J := I2.laid (a := dx) (o := .xd [("value", v)]) (t' := tk) (h' := Gh) gk (Nat.le_trans hsz le) ⟨fun y => if y = ("value" : Str) then some u0 else none, by
      obtain ⟨o, es, ep, e1, e2⟩ := hn
      exact ⟨o, es, ep, by rw [g1 dx (by simpa using Ne.symm ne)]; exact e1, e2⟩, fun f => by
      rw [lookup_put]
      show RelO _ (if f = ("value" : Str) then some u0 else none)
      by_cases z : f = ("value" : Str)
      · rw [if_pos z, if_pos z]
        exact ra
      · rw [if_neg z, if_neg z]
        exact True.intro⟩
    exact ⟨hp.objs.size + 1, _, _, _, _, .ref C, some dx, rfl, J, fun b o z => by
      by_cases y : b = hp.objs.size + 1
      · have := g2 b (by simp [y])
        rw [show Gh.get? b = _ from z] at this
        cases this
      · rw [← g1 b (by simpa using y)]
        exact z, g2 _ (by simp), hx, ⟨rfl, rfl⟩, rfl, rfl, by rw [upd_ne ne]; exact f1, rfl, I2.bare, raises_own T.oex.exC T.oex.tyC, qv dx f2⟩
end
section
variable {c : Ctx} {X : Cx} {W : WX} {x : Str} {p pos rpos : Pos} {e : Expr} {se : SE} {k lv : Nat}
theorem x_raise (C : CalE X.prog c.G X.mg x k) (hc : X.calm = true) (tk : L2.Takes X W) (hK : X.K = c.G.K) (hr : Room (lv + 1) X.A) (he : PE X e (vt c se)) (hg : Gl X x := by rfl)
    (hdb : (x == ("__debug__" : Str)) = false := by decide) (hst : starEach [e] X.env = (false, eval e X.env) :: starEach [] X.env := by rfl) (hpl : (backTo pos (starEach [] X.env)).any (·.1) = false := by rfl) : PS X (.Raise (some (.Call (.Name x p) [e] [] pos)) none rpos) (vx c W (xRaise k se)) := by
  obtain ⟨f, fd, h1, h2, h3, h4, h5, h6, h7⟩ := C.ex
  rw [← hK] at h1 h2 h5
  refine ps_of (L2.ps_raise hc tk (pmk_sup h1 h5 h2 hr hg h3 h4 he hdb hst hpl)) fun σ H E ⟨F, ρ, I, r, e, q⟩ => ?_
  unfold xRaise at e
  split at e
  · rename_i d ρ1 e1
    cases e
    refine ⟨F, ρ, I, d, ρ1, e1, fun v H1 F1 x1 I1 r1 => ⟨v, rfl, fun dx hd => ?_⟩⟩
    have g := Grow.new (o := .xd [("value", v)]) I1.fh hd
    exact q σ _ _ dx v (x1.trans g.f) (I1.grow g) upd_same (r1.ext g.f)
  · cases e
end
end VS

set_option Elab.async false
set_option linter.all false
set_option maxRecDepth 100000
set_option maxHeartbeats 4000000
namespace VS
open PySem PySem.Spec PyProof.Rows L2
inductive Rm where
  | ret (d : D) (o : List D) | xc (k : Nat) (d : D)
abbrev MirX := List Sl → Option Rm
def mirX (n : Nat) (s : SX) : MirX := fun sl => match s (sl ++ List.replicate (n - sl.length) .no) with
  | some (.go .nx ρ) => match outOf sl ρ with
    | some o => some (.ret .non o)
    | none => none
  | some (.go (.rt d) ρ) => match outOf sl ρ with
    | some o => some (.ret d o)
    | none => none
  | some (.xc k d _) => some (.xc k d)
  | _ => none
theorem mirX_inv {n : Nat} {s : SX} {sl : List Sl} {r : Rm} (h : mirX n s sl = some r) : ∃ z, s (sl ++ List.replicate (n - sl.length) .no) = some z ∧
    ((∃ fl ρ d o, z = .go fl ρ ∧ r = .ret d o ∧ outOf sl ρ = some o ∧ (fl = .rt d ∨ (fl = .nx ∧ d = .non))) ∨ ∃ k d ρ, z = .xc k d ρ ∧ r = .xc k d) := by
  unfold mirX at h
  split at h
  · split at h
    · cases h; exact ⟨_, by assumption, .inl ⟨_, _, _, _, rfl, rfl, by assumption, .inr ⟨rfl, rfl⟩⟩⟩
    · cases h
  · split at h
    · cases h; exact ⟨_, by assumption, .inl ⟨_, _, _, _, rfl, rfl, by assumption, .inl rfl⟩⟩
    · cases h
  · cases h; exact ⟨_, by assumption, .inr ⟨_, _, _, rfl, rfl⟩⟩
  · cases h
def rmEnd (G : Gx) (B : List Addr) (F H : Hp) (sl : List Sl) (Q : VK) (E : XK) : Rm → Prop
  | .ret d o => ∀ v H' F', Keep G.T B F H F' H' → Out G F' H' B sl o → Rep G F' v d → Q v H'
  | .xc k d => ∀ H' F' dx v, Keep G.T B F H F' H' → F' dx = some (.xd [("value", v)]) → Rep G F' v d → E (.ref (G.cls k)) (some dx) H'
def spX (G : Gx) (n : Nat) (m : MirX) : Sp := fun vs H Q E => ∃ F B sl, Ext F H ∧ TbOk G.T F H ∧ ArgOk G F H B vs sl ∧ sl.length = n ∧ ∃ r, m sl = some r ∧ rmEnd G B F H sl Q E r
theorem fn_okX {P : Program} {w : World} {G : Gx} {mg : Str → Option Value} {base : Heap} {x qual : Str} {st : Stmt} {f : Addr} {fd : FuncData} {N ps : List Str} {k : Nat} {s : SX} (F : Fun G.K x qual st f fd) (S : FnScope N ps (defScope st))
    (hb : ∀ (c : Ctx) (cdv : Value) (A : Around) (outer : List Env) (sh : Shared) (H : Hp) (E : XK) (W : WX), c.G = G → Room k (A.deeper (envOfC qual (defScope st) sh.heap.objs.size f cdv)) → L2.Takes (cxOf (L2.CX P w) P w G.K mg base N qual (defScope st) f cdv A outer sh H E) W →
      PSs (cxOf (L2.CX P w) P w G.K mg base N qual (defScope st) f cdv A outer sh H E) (defBody st) (vx c W s)) :
    FnOk P w G.K mg base (L2.CX P w) (k + 1) f fd ps (spX G ps.length (mirX N.length s)) := by
  refine F.okX S (fun us H Q E h => ?_) (fun cdv A outer sh H us Q E hr h => ?_)
  · obtain ⟨F0, B, sl, _, _, a, hn, _⟩ := h
    rw [a.length, hn]
  · obtain ⟨F0, B, sl, e, tb, a, hn, r, hm, q⟩ := h
    refine ⟨vx ⟨G, F0, H, B⟩ (fun cls d _ H => E cls d H) s, hb _ cdv A outer sh H E _ rfl hr (L2.takes_of rfl rfl rfl rfl), ?_⟩
    obtain ⟨z, h1, h2⟩ := mirX_inv hm
    have hl := a.length
    refine ⟨F0, _, (by have := ok_start e tb a (N.length - sl.length); unfold L2.start; rw [hl]; exact this), z, h1, ?_⟩
    rcases h2 with ⟨fl, ρ, d, o, rfl, rfl, ho, h3⟩ | ⟨k', d, ρ, rfl, rfl⟩
    · have fin : ∀ σ H' F', Ok ⟨G, F0, H, B⟩ F' H' σ ρ → Keep G.T B F0 H F' H' ∧ Out G F' H' B sl o := fun σ H' F' I => ok_end e a I ho
      rcases h3 with rfl | ⟨rfl, rfl⟩
      · exact fun v σ H' F' x I r => q v H' F' (fin σ H' F' I).1 (fin σ H' F' I).2 r
      · exact fun σ H' F' x I => q .non H' F' (fin σ H' F' I).1 (fin σ H' F' I).2 .non
    · exact fun σ' H' F' dx v x I g r => q H' F' dx v ⟨I.f0, I.fh, I.fr, I.al, I.n0, fun _ => I.tb⟩ g r
section
variable {c : Ctx} {X : Cx} {W : WX} {x : Str} {p pos : Pos} {e : Expr} {es : List Expr} {k n : Nat} {m : MirX} {f : Addr} {fd : FuncData} {ps : List Str} {sp : Sp} {t : TA}
end
def xTry (i j : Nat) (ks : List Nat) (s : EX) : SS := fun ρ => match s ρ with
  | some (.v _ ρ1) => some (.nx, ρ1)
  | some (.xc k d ρ1) => if k ∈ ks then some (.nx, (ρ1.set j (.val (.exc k d))).set i .no) else none
  | none => none
theorem Ok.gone {c : Ctx} {F H : Hp} {σ : L2.St} {ρ : Rho} (I : Ok c F H σ ρ) (i : Nat) : Ok c F H (σ.set i none) (ρ.set i .no) where
  len := by rw [List.length_set, List.length_set]; exact I.len
  f0 := I.f0
  fh := I.fh
  fr := I.fr
  al := I.al
  n0 := I.n0
  sl := fun a s e => by
    by_cases z : i = a
    · subst z
      have hl : i < ρ.length := by
        have := (List.getElem?_eq_some_iff.mp e).1
        rwa [List.length_set] at this
      rw [List.getElem?_set_self hl] at e
      cases e
      exact ⟨none, List.getElem?_set_self (by rw [I.len]; exact hl), trivial⟩
    · rw [List.getElem?_set_ne z] at e
      obtain ⟨ov, h1, h2⟩ := I.sl a s e
      exact ⟨ov, by rw [List.getElem?_set_ne z]; exact h1, h2⟩
  ap := fun a b s t p q ha hb ms mt hp hq e => by
    have no : ∀ (a : Nat) s, (ρ.set i .no)[a]? = some s → s.mut = true → i ≠ a := fun a s k m z => by
      subst z
      have hl : i < ρ.length := by
        have := (List.getElem?_eq_some_iff.mp k).1
        rwa [List.length_set] at this
      rw [List.getElem?_set_self hl] at k
      cases k
      cases m
    have na := no a s ha ms
    have nb := no b t hb mt
    rw [List.getElem?_set_ne na] at ha hp
    rw [List.getElem?_set_ne nb] at hb hq
    exact I.ap a b s t p q ha hb ms mt hp hq e
  hb := I.hb
  tb := I.tb
def Catches (K : PySem.W.Frag) (G : Gx) (cv : Value) (ks : List Nat) : Prop := ∀ k ∈ ks, PySem.W.exmOne K (.ref (G.cls k)) cv = some true
section
variable {c : Ctx} {X : Cx} {i j : Nat} {x n : Str} {e : Expr} {keep : Stmt} {np epos pos pos' : Pos} {s : EX} {ks : List Nat} {cv : Value}
theorem v_try (hex : X.ex = []) (hs : X.stack = X.env :: X.outer) (hf : X.env.frame = some X.env.locals) (hN : X.N.Nodup) (hK : X.K = c.G.K) (hi : X.N[i]? = some n) (hln : X.env.kindOf n = some .local) (hc : Names X x cv) (ct : Catches c.G.K c.G cv ks) (hij : i ≠ j)
    (hb : ∀ (W : WX) (ps : List (Addr × Obj)) (xe : Value → Shared → Prop), L2.Takes (X.tr ps xe) W → PE (X.tr ps xe) e (vr c W s))
    (hk : ∀ (a : Addr) (oe : Obj) (ps : List (Addr × Obj)), PS (X.suite a ((a, oe) :: ps)) keep (tAsg (tVar i) (gName j)))
    (hsw : swapsWith e none epos.line X.env = pure false := by rfl) :
    PS X (.Try [.Expr e epos] [.ExceptHandler (some (.Name x np)) (some n) [keep] pos'] [] [] pos) (vs c (xTry i j ks s)) := by
  refine ps_of (ps_tryKeep (Wout := fun _ _ _ _ => False) (tb := fun W => vx c W (xDrop s)) hex hs hf hN hi hln hc L2.takes0 (fun W ps xe tk _ => x_one (x_drop (hb W ps xe tk) hsw)) hk) fun σ H E ⟨F, ρ, I, fl, ρ', ee, q⟩ => ?_
  unfold xTry at ee
  split at ee
  · rename_i d ρ1 e1
    cases ee
    refine ⟨F, ρ, I, .go .nx ρ', ?_, q⟩
    unfold xDrop
    rw [e1]
  · rename_i k d ρ1 e1
    split at ee
    · rename_i hk'
      cases ee
      refine ⟨F, ρ, I, .xc k d ρ1, ?_, ?_⟩
      · unfold xDrop
        rw [e1]
      · intro σ' H' F' dx v x1 I1 g r1
        refine ⟨true, by rw [hK]; exact ct k hk', (fun z => by cases z), fun _ => ⟨c.G.cls k, dx, rfl, rfl, fun a na => ?_⟩⟩
        have gr := Grow.new (o := exq a (c.G.cls k) dx) I1.fh na
        have ne : dx ≠ a := fun z => by
          have := I1.fh _ _ g
          rw [z, na] at this
          cases this
        have J := I1.grow gr
        have rx : Rep c.G (upd F' a (exq a (c.G.cls k) dx)) (.ref a) (.exc k d) := .exc upd_same (by rw [upd_ne ne]; exact g) (r1.ext gr.f)
        have J2 := ((J.put i (.adr a)).put j rx).gone i
        have el : ((ρ1.set i (.val (.adr a))).set j (.val (.exc k d))).set i .no = (ρ1.set j (.val (.exc k d))).set i .no := by
          rw [List.set_comm _ _ hij, List.set_set]
        rw [el] at J2
        exact q _ _ _ (x1.trans gr.f) J2
    · cases ee
  · cases ee
end
end VS

set_option Elab.async false
set_option linter.all false
set_option maxRecDepth 100000
set_option maxHeartbeats 4000000
namespace VS
open PySem PySem.Spec PyProof.Rows L2
structure CalCR (P : Program) (w : World) (G : Gx) (mg : Str → Option Value) (base : Heap) (x : Str) (k n : Nat) (t : Nat) (m : MirX) : Prop where
  ex : ∃ (f : Addr) (fd : FuncData) (ps : List Str), mg x = some (.ref (G.cls t)) ∧ Mk G.K (G.cls t) f ∧ Binds G.K fd ps [] ∧ FnOk P w G.K mg base (L2.CX P w) k f fd ps (spX G n m)
def sMakeX (t nf n : Nat) (m : MirX) (a : SA) : EX := fun ρ => match a ρ with
  | some (xs, ρ1) => if xs.length + 1 = n then match m (.slf t [] :: xs.map .val) with
    | some (.ret .non out) => if out.length = nf then some (.v (.ins t out) ρ1) else none
    | some (.xc k d) => some (.xc k d ρ1)
    | _ => none
    else none
  | none => none
section
variable {c : Ctx} {X : Cx} {W : WX} {x : Str} {p pos : Pos} {e : Expr} {es : List Expr} {k n t nf : Nat} {m : MirX} {f C : Addr} {fd : FuncData} {ps : List Str} {sp : Sp} {ta : TA}
theorem run_makeX {pins : List (Addr × Obj)} {σ : L2.St} {H : Hp} {s : Shared} {Q : VK} {us : List Value} {vs : List V} (M : Mk X.K C f) (F : FnOk X.prog X.w X.K X.mg X.base (L2.CX X.prog X.w) k f fd ps sp) (hr : Room (k + 1) X.A) (hb : Binds X.K fd ps []) (tk : L2.Takes X W)
    (I : L2.Inv X pins σ H s) (r : L2.Vals vs us) (h : ∀ a dx, H a = none → H dx = none → dx ≠ a → sp (.ref a :: vs) (upd (upd H dx (.own a)) a (.ins C dx [])) (fun v H2 => v = .non ∧ Q (.ref a) H2) fun cls d H' => W cls d σ H') :
    wpAny (model X.prog X.w) X.A (call (.ref C) us) (EP X pins σ Q) X.xe s := by
  obtain ⟨a, ea⟩ : ∃ a, a = s.heap.objs.size + 1 := ⟨_, rfl⟩
  have hq := h _ _ (I.hok.fresh (Nat.le_succ _)) (I.hok.fresh (Nat.le_refl _)) (Nat.ne_of_lt (Nat.lt_succ_self _))
  have J := L2.Inv.made (C := C) I
  have rr : L2.Vals (V.ref (s.heap.objs.size + 1) :: vs) (Value.ref (s.heap.objs.size + 1) :: us) := .cons rfl r
  have hl : (Value.ref (s.heap.objs.size + 1) :: us).length = ps.length := by rw [← rr.length]; exact F.len _ _ _ _ hq
  have b := hb _ (Value.ref (s.heap.objs.size + 1) :: us) J.kIn (by rw [List.append_nil]; exact hl)
  rw [List.append_nil] at b
  refine wpAny_call (L2.make_map (f := f) I.kIn M.makes M.init (beq_iff_eq.mp M.fn) (codeAny_mono (F.run _ X.stack _ _ _ _ _ _ _ (hr.make C us []) (J.env0.make C us []) b rr hq) fun z s' hz => ?_))
  match z, hz with
  | .error e, hz => exact tk e s' (L2.XE.of_call J (fun _ _ _ y => y) hz)
  | .ok (.ret u), hz =>
    obtain ⟨v, H', J2, rv, ev, q⟩ := J.after hz
    subst ev
    exact ⟨rv, V.ref (s.heap.objs.size + 1), H', J2, rfl, q⟩
  | .ok .next, hz => exact False.elim hz
  | .ok .brk, hz => exact False.elim hz
  | .ok .cont, hz => exact False.elim hz
def tMakeX (C : Addr) (sp : Sp) (W : WX) (t : TA) : TE := fun σ H Q => t σ H fun vs H1 => ∀ a dx, H1 a = none → H1 dx = none → dx ≠ a → sp (.ref a :: vs) (upd (upd H1 dx (.own a)) a (.ins C dx [])) (fun v H2 => v = .non ∧ Q (.ref a) H2) fun cls d H' => W cls d σ H'
theorem pe_makeX (M : Mk X.K C f) (F : FnOk X.prog X.w X.K X.mg X.base (L2.CX X.prog X.w) k f fd ps sp) (hr : Room (k + 1) X.A) (hg : Gl X x) (hm : X.mg x = some (.ref C)) (hb : Binds X.K fd ps []) (tk : L2.Takes X W)
    (ha : PA X (e :: es) ta) (hdb : (x == ("__debug__" : Str)) = false := by decide) (he : starEach (e :: es) X.env = (false, eval e X.env) :: starEach es X.env := by rfl) (hpl : (backTo pos (starEach es X.env)).any (·.1) = false := by rfl) :
    PE X (.Call (.Name x p) (e :: es) [] pos) (tMakeX C sp W ta) :=
  ⟨fun pins s σ H Q I h => wpAny_Call_Name_kw (ld_glob I hg hm (PySem.W.callWith_K (h₀ := X.base) I.ok.mod.kin M.kp (thn (ha.run pos pins s σ H _ I h) fun us s1 ⟨vs, H1, I1, r, q⟩ => ⟨I1.kIn, run_makeX M F hr hb tk I1 r q⟩) he hpl) hdb)⟩
theorem e_make {sa : SA} (Cl : CalCR X.prog X.w c.G X.mg X.base x k n t m) (hnf : (c.G.fld t).length = nf) (hK : X.K = c.G.K) (hr : Room (k + 1) X.A) (tk : L2.Takes X W) (ha : PA X (e :: es) (va c sa)) (hg : Gl X x := by rfl) (hdb : (x == ("__debug__" : Str)) = false := by decide)
    (he : starEach (e :: es) X.env = (false, eval e X.env) :: starEach es X.env := by rfl) (hpl : (backTo pos (starEach es X.env)).any (·.1) = false := by rfl) : PE X (.Call (.Name x p) (e :: es) [] pos) (vr c W (sMakeX t nf n m sa)) := by
  obtain ⟨f, fd, ps, hm, hk, hb, hF⟩ := Cl.ex
  rw [← hK] at hk hb hF
  refine pe_of (pe_makeX hk hF hr hg hm hb tk ha hdb he hpl) fun σ H Q ⟨F, ρ, I, r, e, q⟩ => ?_
  unfold sMakeX at e
  split at e
  · rename_i xs ρ1 e1
    split at e
    · rename_i hn
      refine ⟨F, ρ, I, xs, ρ1, e1, fun us H1 F1 x1 I1 r1 a dx ha' hdx hne => ?_⟩
      have G1 : Grow F1 H1 F1 (upd H1 dx (.own a)) := Grow.raw I1.fh hdx
      have ha2 : upd H1 dx (.own a) a = none := by rw [upd_ne hne.symm]; exact ha'
      have G2 := G1.trans (Grow.raw (o := .ins (c.G.cls t) dx []) G1.fh ha2)
      have hFa : F1 a = none := ext_none I1.fh ha'
      have J := I1.grow G2
      have kept : ∀ {F2 H2}, Keep c.G.T [a] F1 _ F2 H2 → Ok c F2 H2 σ ρ1 := fun {F2 H2} k2 => J.keepX k2 (I1.no_H0 ha') (fun o e => by rw [upd_same] at e; cases e; exact nl_ins) (I1.no_slot ha')
      split at e
      · rename_i out e2
        split at e
        · rename_i hl
          cases e
          refine ⟨F1, [a], _, G2.fh, J.tb, .slf hFa upd_same r1, by simpa using hn, .ret .non out, e2, fun v H2 F2 k2 o2 r2 => ?_⟩
          cases r2
          refine ⟨rfl, ?_⟩
          obtain ⟨z1, dx', fs, z2, ⟨nn, z3⟩, z4⟩ := o2 a (List.mem_singleton.mpr rfl)
          have I3 := (kept k2).sealO z2 nt_ins nl_ins z1 (I1.no_H0 ha') (I1.no_slot ha')
          have ex := Ext.upd (o := .ins (c.G.cls t) dx' fs) z1
          refine q _ H2 _ ((x1.trans k2.f).trans ex) I3 (.ins upd_same ?_ (z4.ext ex))
          have l1 := z4.length
          rw [List.length_map] at l1
          have l2 := congrArg List.length z3
          rw [List.length_map, List.length_take] at l2
          rw [z3, List.take_of_length_le (by omega)]
        · cases e
      · rename_i k' d e2
        cases e
        exact ⟨F1, [a], _, G2.fh, J.tb, .slf hFa upd_same r1, by simpa using hn, .xc k' d, e2, fun H2 F2 dx' v k2 g r2 => q H2 F2 dx' v (x1.trans k2.f) (kept k2) g r2⟩
      · cases e
    · cases e
  · cases e
end
end VS

set_option Elab.async false
set_option linter.all false
set_option maxRecDepth 100000
set_option maxHeartbeats 4000000
namespace VS
open PySem PySem.Spec PyProof.Rows L2
def CatchX (K : PySem.W.Frag) (G : Gx) (mg : Str → Option Value) (x : Str) (ks : List Nat) : Prop := ∃ C : Addr, mg x = some (.ref C) ∧ Catches K G (.ref C) ks
theorem ct_nil {K : PySem.W.Frag} {G : Gx} {cv : Value} : Catches K G cv [] := fun k h => by cases h
theorem ct_cons {K : PySem.W.Frag} {G : Gx} {C : Addr} {k : Nat} {ks : List Nat} (h1 : PySem.W.subIn K (.ref C) (.type "BaseException") = some true) (h2 : PySem.W.hasDictIn K C = true) (h3 : PySem.W.typeIn K (.ref C) = some (.type "type")) (h4 : PySem.W.subIn K (.ref (G.cls k)) (.ref C) = some true) (r : Catches K G (.ref C) ks) : Catches K G (.ref C) (k :: ks) := fun k' h => by
  rcases List.mem_cons.mp h with e | h
  · subst e; exact PySem.W.exm_ref h1 h2 h3 h4
  · exact r k' h
section
variable {c : Ctx} {X : Cx} {i j : Nat} {x n : Str} {e : Expr} {keep : Stmt} {np epos pos pos' : Pos} {s : EX} {ks : List Nat}
theorem v_tryE (T : CatchX c.G.K c.G X.mg x ks) (hN : X.N.Nodup) (hK : X.K = c.G.K) (hij : i ≠ j)
    (hb : ∀ (W : WX) (ps : List (Addr × Obj)) (xe : Value → Shared → Prop), L2.Takes (X.tr ps xe) W → PE (X.tr ps xe) e (vr c W s))
    (hk : ∀ (a : Addr) (oe : Obj) (ps : List (Addr × Obj)), PS (X.suite a ((a, oe) :: ps)) keep (tAsg (tVar i) (gName j)))
    (hi : X.N[i]? = some n := by rfl) (hln : X.env.kindOf n = some .local := by rfl) (hg : Gl X x := by rfl) (hdb : (x == ("__debug__" : Str)) = false := by decide)
    (hex : X.ex = [] := by rfl) (hs : X.stack = X.env :: X.outer := by rfl) (hf : X.env.frame = some X.env.locals := by rfl)
    (hsw : swapsWith e none epos.line X.env = pure false := by rfl) :
    PS X (.Try [.Expr e epos] [.ExceptHandler (some (.Name x np)) (some n) [keep] pos'] [] [] pos) (vs c (xTry i j ks s)) := by
  obtain ⟨C, h1, h2⟩ := T
  exact v_try hex hs hf hN hK hi hln ⟨hg, hdb, .inl h1⟩ h2 hij hb hk hsw
end
end VS

set_option Elab.async false
set_option linter.all false
set_option maxRecDepth 100000
set_option maxHeartbeats 4000000
namespace VS
open PySem PySem.Spec PyProof.Rows L2
def unD : D → D
  | .bth _ d => d
  | d => d
def sU (s : SE) : SE := fun ρ => match s ρ with
  | some (d, ρ') => some (unD d, ρ')
  | none => none
theorem Rep.un {G : Gx} {F : Hp} {v : V} {d : D} (r : Rep G F v d) : Rep G F v (unD d) := by
  cases r with
  | bth r => exact r
  | non => exact .non
  | bl b => exact .bl b
  | int i => exact .int i
  | str x => exact .str x
  | adr a => exact .adr a
  | lst h k => exact .lst h k
  | scr h k => exact .scr h k
  | tup h k => exact .tup h k
  | ins h n k => exact .ins h n k
  | dct h k => exact .dct h k
  | exc h h2 k => exact .exc h h2 k
def anyV : V → D
  | .non => .non
  | .bl b => .bl b
  | .int i => .int i
  | .str x => .str x
  | .ref a => .adr a
  | _ => .non
theorem Rep.any {G : Gx} {F F' : Hp} {v : V} {d : D} (r : Rep G F v d) : Rep G F' v (anyV v) := by
  cases r with
  | non => exact .non
  | bl b => exact .bl b
  | int i => exact .int i
  | str x => exact .str x
  | _ => exact .adr _
theorem Reps.any {G : Gx} {F F' : Hp} : ∀ {vs : List V} {ds : List D}, Reps G F vs ds → Reps G F' vs (vs.map anyV)
  | _, _, .nil => .nil
  | _, _, .cons r k => .cons r.any (Reps.any k)
section
variable {c : Ctx} {X : Cx}
theorem ve_un {e : Expr} {s : SE} (h : PE X e (vt c s)) : PE X e (vt c (sU s)) := pe_of h fun σ H Q ⟨F, ρ, I, d, ρ', e, q⟩ => by
  unfold sU at e
  split at e
  · rename_i d0 ρ1 e1
    cases e
    exact ⟨F, ρ, I, d0, ρ', e1, fun v H1 F1 x1 I1 r1 => q v H1 F1 x1 I1 r1.un⟩
  · cases e
def tyOfD : D → Option String
  | .non => some "NoneType"
  | .bl _ => some "bool"
  | .int _ => some "int"
  | .str _ => some "str"
  | .lst _ => some "list"
  | .tup _ => some "tuple"
  | .dct false _ _ => some "dict"
  | _ => none
def NoBi (K : PySem.W.Frag) (C : Addr) : Prop := ∀ t ∈ (["NoneType", "bool", "int", "str", "list", "tuple", "dict"] : List String), PySem.W.kitOne K (.type t) (.ref C) = some false
theorem noBi_of {K : PySem.W.Frag} {C : Addr} (h1 : PySem.W.kitOne K (.type "NoneType") (.ref C) = some false) (h2 : PySem.W.kitOne K (.type "bool") (.ref C) = some false) (h3 : PySem.W.kitOne K (.type "int") (.ref C) = some false) (h4 : PySem.W.kitOne K (.type "str") (.ref C) = some false)
    (h5 : PySem.W.kitOne K (.type "list") (.ref C) = some false) (h6 : PySem.W.kitOne K (.type "tuple") (.ref C) = some false) (h7 : PySem.W.kitOne K (.type "dict") (.ref C) = some false) : NoBi K C := fun t h => by
  simp only [List.mem_cons, List.not_mem_nil, or_false] at h
  rcases h with rfl | rfl | rfl | rfl | rfl | rfl | rfl <;> assumption
def gIsCX (k : Nat) (d : D) : Option D := match d with
  | .ins k' _ => if k' = k then some (.bl true) else none
  | d => match tyOfD d with
    | some _ => some (.bl false)
    | none => none
theorem ty_of {F H : Hp} {v : V} {d : D} {t : String} (e : Ext F H) (r : Rep c.G F v d) (h : tyOfD d = some t) : TyX X.K H v (.type t) ∧ t ∈ (["NoneType", "bool", "int", "str", "list", "tuple", "dict"] : List String) := by
  cases r with
  | non => cases h; exact ⟨.base .non, by simp⟩
  | bl b => cases h; exact ⟨.base (.bl _), by simp⟩
  | int i => cases h; exact ⟨.base (.int _), by simp⟩
  | str x => cases h; exact ⟨.base (.str _), by simp⟩
  | lst q _ => cases h; exact ⟨.base (.lst (e _ _ q)), by simp⟩
  | tup q _ => cases h; exact ⟨.base (.tup (e _ _ q)), by simp⟩
  | @dct a b od ks vs ds q _ =>
    cases b with
    | true => cases h
    | false =>
      cases h
      obtain ⟨kvs, q1, _⟩ := dct_fz q
      exact ⟨.fDict (e _ _ q1), by simp⟩
  | _ => cases h
theorem ve_isCX {e : Expr} {x : Str} {s : SE} {p p2 pos : Pos} (k : Nat) (hm : X.mg "isinstance" = none) (he : PE X e (vt c s)) (hm2 : X.mg x = some (.ref (c.G.cls k))) (C : ClsOk X.K (c.G.cls k)) (NB : NoBi X.K (c.G.cls k)) (hg : Gl X "isinstance" := by rfl) (hg2 : Gl X x := by rfl)
    (d2 : (x == ("__debug__" : Str)) = false := by decide)
    (h1 : starEach [e, .Name x p2] X.env = (false, eval e X.env) :: starEach [.Name x p2] X.env := by rfl) (h2 : starEach [.Name x p2] X.env = (false, eval (.Name x p2) X.env) :: starEach [] X.env := by rfl)
    (hpl : (backTo pos (starEach [.Name x p2] X.env)).any (·.1) = false := by rfl) :
    PE X (.Call (.Name "isinstance" p) [e, .Name x p2] [] pos) (vt c (s1 (gIsCX k) s)) := by
  refine pe_of (pe_callB call_isi hg hm (by decide +kernel) (pa_cons he (pa_cons (pe_glob (v := .ref (c.G.cls k)) hg2 hm2 rfl d2) pa_nil h2) h1) (by decide) (by decide) h1 hpl) fun σ H Q ⟨F, ρ, I, d, ρ', e, q⟩ => ?_
  obtain ⟨y, e1, e2⟩ := s1_inv e
  refine ⟨F, ρ, I, y, ρ', e1, fun v H1 F1 x1 I1 r1 => ?_⟩
  unfold gIsCX at e2
  split at e2
  · split at e2
    · rename_i hk
      subst hk
      cases e2
      cases r1 with
      | ins g1 _ _ =>
        exact ⟨_, _, _, _, true, rfl, .own _, .base (.ins (I1.fh _ _ g1) C.cl C.ha C.hn C.tk C.mr), if_pos (beq_self_eq_true _), q _ _ _ x1 I1 (.bl _)⟩
    · cases e2
  · split at e2
    · rename_i t ht
      cases e2
      obtain ⟨g1, g2⟩ := ty_of (X := X) I1.fh r1 ht
      exact ⟨_, _, _, _, false, rfl, .own _, g1, NB _ g2, q _ _ _ x1 I1 (.bl _)⟩
    · cases e2
end
end VS

set_option Elab.async false
set_option linter.all false
set_option maxRecDepth 100000
set_option maxHeartbeats 4000000
namespace VS
open PySem PySem.Spec PyProof.Rows L2
def tAppS (te : TE) (x : Str) : TS := fun E σ H => te σ H fun v H1 => ∃ p us, v = .ref p ∧ H1 p = some (.lst us) ∧ us.length < sizeLine ∧ E.nx σ (upd H1 p (.lst (us ++ [.str x])))
theorem ps_appS {X : Cx} {o : Expr} {te : TE} {j : Nat} {y : Str} {cp apos cpos pos : Pos} (h : PE X o te)
    (hbase : attributeBase o "append" X.env (eval o X.env) = eval o X.env := by rfl)
    (hfew : ((backTo cpos (starEach [Expr.Constant (.str y) j cp] X.env)).all (fun x => !x.1) && (backToKw cpos (keywordEach [] X.env)).all (fun x => x.1.isSome)
      && decide ([Expr.Constant (.str y) j cp].length + ([] : List Keyword).length + (if ([] : List Keyword).isEmpty then 0 else 1) < 30)) = true := by rfl)
    (hline : (apos.endLine == cpos.line) = true := by rfl) (hst : starEach [Expr.Constant (.str y) j cp] X.env = (false, eval (.Constant (.str y) j cp) X.env) :: starEach [] X.env := by rfl) (hpl : (backTo cpos (starEach [] X.env)).any (·.1) = false := by rfl)
    (hs : swapsWith (.Call (.Attribute o "append" apos) [.Constant (.str y) j cp] [] cpos) none pos.line X.env = pure false := by rfl) (mono : ∀ σ H Q Q', te σ H Q → (∀ v H1, Q v H1 → Q' v H1) → te σ H Q') :
    PS X (.Expr (.Call (.Attribute o "append" apos) [.Constant (.str y) j cp] [] cpos) pos) (tAppS te y) :=
  ps_of (ps_expr (pe_bm PySem.F.plainAttrs_list PySem.F.slot_list_append PySem.F.type_list_append (id := "list.append") (fun pins s σ H x xs v us Q I rx rv q => mt_append pins s σ H x xs v us Q I rx rv q) h (pa_cons pe_str pa_nil hst) hbase hfew hline hst hpl) hs) fun σ H E q =>
    mono σ H _ _ q fun v H1 ⟨p, us, h1, h2, h3, z⟩ => by
      subst h1
      exact ⟨.inl ⟨rfl, _, .of h2⟩, _, us, _, rfl, rfl, h2, h3, z⟩
theorem vtQ_mono {G : Gx} {m : SE} : ∀ (σ : L2.St) (H : Hp) (Q Q' : VK), vtQ G m σ H Q → (∀ v H1, Q v H1 → Q' v H1) → vtQ G m σ H Q' := fun σ H Q Q' ⟨c, hc, F, ρ, I, d, ρ', e, q⟩ w => ⟨c, hc, F, ρ, I, d, ρ', e, fun v H' F' x I' r => w _ _ (q v H' F' x I' r)⟩
end VS

set_option Elab.async false
set_option linter.all false
set_option maxRecDepth 100000
set_option maxHeartbeats 4000000
namespace VS
open PySem PySem.Spec PyProof.Rows L2
def kd7 : D → Nat
  | .non => 0 | .bl _ => 1 | .int _ => 2 | .str _ => 3 | .lst _ => 4 | .tup _ => 5 | .ins _ _ => 6 | _ => 7
def inc : D → D → Bool
  | .int i, .int j => i != j
  | .str x, .str y => x != y
  | .bl a, .bl b => a != b
  | d, e => kd7 d != 7 && (kd7 e != 7 && kd7 d != kd7 e)
theorem inc_ok {G : Gx} {F : Hp} {v : V} {d e : D} (r : Rep G F v d) (q : Rep G F v e) : inc d e = false := by
  cases r with
  | non => cases q; rfl
  | bl b => cases q; simp [inc]
  | int i => cases q; simp [inc]
  | str x => cases q; simp [inc]
  | lst h k =>
    cases q with
    | lst h2 k2 => rfl
    | tup h2 k2 => rw [h] at h2; cases h2
    | ins h2 n2 k2 => rw [h] at h2; cases h2
    | _ => rfl
  | tup h k =>
    cases q with
    | tup h2 k2 => rfl
    | lst h2 k2 => rw [h] at h2; cases h2
    | ins h2 n2 k2 => rw [h] at h2; cases h2
    | _ => rfl
  | ins h n k =>
    cases q with
    | ins h2 n2 k2 => rfl
    | lst h2 k2 => rw [h] at h2; cases h2
    | tup h2 k2 => rw [h] at h2; cases h2
    | _ => rfl
  | _ => cases q <;> rfl
def apt : List D → List D → Bool
  | [], [] => false
  | d :: ds, e :: es => inc d e || apt ds es
  | _, _ => true
theorem apt_ok {G : Gx} {F : Hp} : ∀ {us : List V} {ds es : List D}, Reps G F us ds → Reps G F us es → apt ds es = false
  | _, _, _, .nil, .nil => rfl
  | _, _, _, .cons r k, .cons q l => by
    unfold apt
    rw [inc_ok r q, apt_ok k l]
    rfl
theorem apt_no {G : Gx} {ds es : List D} (h : apt ds es = true) : ∀ (F : Hp) (us : List V), Reps G F us ds → Reps G F us es → False := fun F us r q => by
  rw [apt_ok r q] at h
  cases h
def rsA (A : List Addr) (F : Hp) : Hp := fun b => match F b with
  | some (.lst us) => if b ∈ A then some (.lst us) else none
  | some (.tbl _) => none
  | o => o
theorem rsA_ext {A : List Addr} {F : Hp} : Ext (rsA A F) F := fun b o e => by
  unfold rsA at e
  split at e
  · rename_i us h
    split at e
    · rw [h]; exact e
    · cases e
  · cases e
  · exact e
theorem rsA_lst {A : List Addr} {F : Hp} {b : Addr} {us : List V} (e : rsA A F b = some (.lst us)) : b ∈ A := by
  unfold rsA at e
  split at e
  · split at e
    · assumption
    · cases e
  · cases e
  · rename_i n _
    exact absurd e (n us)
theorem rsA_tbl {A : List Addr} {F : Hp} {b : Addr} {o : HO} (e : rsA A F b = some o) : ∀ ps, o ≠ .tbl ps := fun ps z => by
  subst z
  unfold rsA at e
  split at e
  · split at e
    · cases e
    · cases e
  · cases e
  · rename_i _ n
    exact absurd e (n ps)
theorem rsA_of {A : List Addr} {F : Hp} {b : Addr} {o : HO} (h : F b = some o) (n : ∀ us, o ≠ .lst us) (n2 : ∀ ps, o ≠ .tbl ps) : rsA A F b = some o := by
  unfold rsA
  rw [h]
  split
  · rename_i us z
    cases z
    exact absurd rfl (n us)
  · rename_i ps z
    cases z
    exact absurd rfl (n2 ps)
  · rfl
theorem rsA_in {A : List Addr} {F : Hp} {b : Addr} {us : List V} (h : F b = some (.lst us)) (hb : b ∈ A) : rsA A F b = some (.lst us) := by
  unfold rsA
  rw [h]
  exact if_pos hb
theorem rsA_mono {A B : List Addr} {F : Hp} (s : ∀ a ∈ A, a ∈ B) : Ext (rsA A F) (rsA B F) := fun b o e => by
  have f := rsA_ext b o e
  by_cases z : ∃ us, o = .lst us
  · obtain ⟨us, rfl⟩ := z
    exact rsA_in f (s _ (rsA_lst e))
  · exact rsA_of f (fun us y => z ⟨us, y⟩) (rsA_tbl e)
mutual
/-- the lists within -/
def lsts : D → List (List D)
  | .lst ds => ds :: lstss ds
  | .tup ds => lstss ds
  | .ins _ ds => lstss ds
  | .exc _ d => lsts d
  | .bth _ d => lsts d
  | .dct _ _ ds => lstss ds
  | _ => []
def lstss : List D → List (List D)
  | [] => []
  | d :: ds => lsts d ++ lstss ds
end
mutual
/-- no script, no dict within -/
def plnD : D → Bool
  | .lst ds => plnDs ds
  | .tup ds => plnDs ds
  | .ins _ ds => plnDs ds
  | .exc _ d => plnD d
  | .bth _ d => plnD d
  | .scr _ => false
  | .dct b _ ds => !b && plnDs ds
  | _ => true
def plnDs : List D → Bool
  | [] => true
  | d :: ds => plnD d && plnDs ds
end
def Foot (G : Gx) (F : Hp) (A : List Addr) (L : List (List D)) : Prop := ∀ a ∈ A, ∃ us ds, F a = some (.lst us) ∧ Reps G (rsA A F) us ds ∧ ds ∈ L
theorem Foot.app {G : Gx} {F : Hp} {A B : List Addr} {L M : List (List D)} (h : Foot G F A L) (k : Foot G F B M) : Foot G F (A ++ B) (L ++ M) := fun a ha => by
  rcases List.mem_append.mp ha with z | z
  · obtain ⟨us, ds, q1, q2, q3⟩ := h a z
    exact ⟨us, ds, q1, q2.ext (rsA_mono fun a h => List.mem_append_left _ h), List.mem_append_left _ q3⟩
  · obtain ⟨us, ds, q1, q2, q3⟩ := k a z
    exact ⟨us, ds, q1, q2.ext (rsA_mono fun a h => List.mem_append_right _ h), List.mem_append_right _ q3⟩
mutual
theorem Rep.foot {G : Gx} {F : Hp} : ∀ {v : V} {d : D}, Rep G F v d → plnD d = true → ∃ A, Rep G (rsA A F) v d ∧ Foot G F A (lsts d)
  | _, _, .non, _ => ⟨[], .non, fun a h => by cases h⟩
  | _, _, .bl b, _ => ⟨[], .bl b, fun a h => by cases h⟩
  | _, _, .int i, _ => ⟨[], .int i, fun a h => by cases h⟩
  | _, _, .str x, _ => ⟨[], .str x, fun a h => by cases h⟩
  | _, _, .adr a, _ => ⟨[], .adr a, fun a h => by cases h⟩
  | _, _, .lst (a := a) (vs := vs) (ds := ds) h r, z => by
    obtain ⟨A, k, f⟩ := Reps.foot r z
    refine ⟨a :: A, .lst (rsA_in h List.mem_cons_self) (k.ext (rsA_mono fun x hx => List.mem_cons_of_mem _ hx)), fun x hx => ?_⟩
    rcases List.mem_cons.mp hx with e | hx
    · subst e
      exact ⟨vs, ds, h, k.ext (rsA_mono fun x hx => List.mem_cons_of_mem _ hx), List.mem_cons_self⟩
    · obtain ⟨us, es, q1, q2, q3⟩ := f x hx
      exact ⟨us, es, q1, q2.ext (rsA_mono fun x hx => List.mem_cons_of_mem _ hx), List.mem_cons_of_mem _ q3⟩
  | _, _, .tup h r, z => by
    obtain ⟨A, k, f⟩ := Reps.foot r z
    exact ⟨A, .tup (rsA_of h (fun us e => by cases e) fun us e => by cases e) k, f⟩
  | _, _, .ins h n r, z => by
    obtain ⟨A, k, f⟩ := Reps.foot r z
    exact ⟨A, .ins (rsA_of h (fun us e => by cases e) fun us e => by cases e) n k, f⟩
  | _, _, .exc h h2 r, z => by
    obtain ⟨A, k, f⟩ := Rep.foot r z
    exact ⟨A, .exc (rsA_of h (fun us e => by unfold exq at e; cases e) fun us e => by unfold exq at e; cases e) (rsA_of h2 (fun us e => by cases e) fun us e => by cases e) k, f⟩
  | _, _, .bth r, z => by
    obtain ⟨A, k, f⟩ := Rep.foot r z
    exact ⟨A, .bth k, f⟩
  | _, _, .scr _ _, z => by cases z
  | _, _, .dct (a := a) (b := b) (od := od) (ks := ks) (vs := vs) (ds := ds) h r, z => by
    simp only [plnD, Bool.and_eq_true] at z
    obtain ⟨A, k, f⟩ := Reps.foot r z.2
    refine ⟨A, ?_, f⟩
    have hb : b = false := by
      cases b
      · rfl
      · cases z.1
    subst hb
    obtain ⟨kvs, h1, h2, h3, h4⟩ := h
    exact Rep.dct (b := false) (od := od) ⟨kvs, rsA_of h1 (fun us e => by cases e) (fun us e => by cases e), h2, h3, h4⟩ k
theorem Reps.foot {G : Gx} {F : Hp} : ∀ {vs : List V} {ds : List D}, Reps G F vs ds → plnDs ds = true → ∃ A, Reps G (rsA A F) vs ds ∧ Foot G F A (lstss ds)
  | _, _, .nil, _ => ⟨[], .nil, fun a h => by cases h⟩
  | _, _, .cons r k, z => by
    simp only [plnDs, Bool.and_eq_true] at z
    obtain ⟨A, r1, f1⟩ := Rep.foot r z.1
    obtain ⟨B, k1, f2⟩ := Reps.foot k z.2
    exact ⟨A ++ B, .cons (r1.ext (rsA_mono fun a h => List.mem_append_left _ h)) (k1.ext (rsA_mono fun a h => List.mem_append_right _ h)), f1.app f2⟩
end
end VS

set_option Elab.async false
set_option linter.all false
set_option maxRecDepth 100000
set_option maxHeartbeats 4000000
namespace VS
open PySem PySem.Spec PyProof.Rows L2
def viF (c : Ctx) (s : SI) : TI := fun σ H R => ∃ F ρ, Ok c F H σ ρ ∧ ∃ ds ρ', s ρ = some (ds, ρ') ∧ ∀ J H' F', Ext F F' → Ok c F' H' σ ρ' → Yields c.G J (fun _ => none) ds → R J H'
theorem vif_range1 {c : Ctx} {X : Cx} {tg : Expr} {a : Expr} {sa : SA} {p pos : Pos} (hm : X.mg "range" = none) (ha : PA X [a] (va c sa)) (hg : Gl X "range" := by rfl) (hs : starEach [a] X.env = [(false, eval a X.env)] := by rfl) : PI X tg (.Call (.Name "range" p) [a] [] pos) (viF c (iR sa)) :=
  pi_of (pi_range1 hg hm ha hs) fun σ H R ⟨F, ρ, I, ds, ρ', e, q⟩ => by
    unfold iR at e
    split at e
    · rename_i j ρ1 e1
      split at e
      · rename_i hj
        cases e
        refine ⟨F, ρ, I, _, ρ', e1, fun vs H1 F1 x1 I1 r1 => ?_⟩
        obtain ⟨v, ev, r⟩ := reps1 r1
        cases r
        exact ⟨_, ev, hj.1, hj.2, q _ _ F1 x1 I1 (yields_rng 0 _)⟩
      · cases e
    · cases e
def tForQ (G : Gx) (it : SI) (t : Tg) (tb : TS) : TS := fun E σ H => ∃ (c : Ctx) (F : Hp) (ρ : Rho), c.G = G ∧ Ok c F H σ ρ ∧ ∃ ds ρ1, it ρ = some (ds, ρ1) ∧ ∀ F1 H1, Ext F F1 → Ok c F1 H1 σ ρ1 →
  ∃ P : Nat → L2.St → Hp → Prop, P 0 σ H1 ∧ ∀ i σ2 H2, P i σ2 H2 → i ≤ ds.length ∧ ∃ (c2 : Ctx) (F2 : Hp) (ρ2 : Rho), c2.G = G ∧ Ok c2 F2 H2 σ2 ρ2 ∧ (i = ds.length → E.nx σ2 H2) ∧
    ∀ d, ds[i]? = some d → ∃ ρ3, tgt t d ρ2 = some ρ3 ∧ ∀ F3 H3 σ3, Ext F2 F3 → Ok c2 F3 H3 σ3 ρ3 → tb { nx := P (i + 1), rt := E.rt, bk := E.nx, ct := P (i + 1) } σ3 H3
theorem ps_forQ {X : Cx} {G : Gx} {tg iter : Expr} {body : List Stmt} {it : SI} {t : Tg} {tb : TS} {pos : Pos} (hp : PassesOwn (model X.prog X.w) X.A X.env X.xe) (hc : X.calm = true) (hi : ∀ c : Ctx, c.G = G → PI X tg iter (viF c it)) (hg : PG X tg (gT X.K t)) (hb : PSs X body tb)
    (hs : ∀ x, foldedSetIterable iter X.env x = pure x := by intro _; rfl) : PS X (.For tg iter body [] pos) (tForQ G it t tb) := by
  refine ⟨fun pins s σ H E I0 ⟨c, F, ρ, hcG, I, ds, ρ1, e1, k⟩ => ?_⟩
  refine (L2.ps_for hp hc (hi c hcG) hg hb hs).run pins s σ H E I0 ?_
  refine ⟨F, ρ, I, ds, ρ1, e1, fun J H1 F1 x1 I1 y => ?_⟩
  obtain ⟨P, p0, ps⟩ := k F1 H1 x1 I1
  refine ⟨fun i m σ H => m = ds.length - i ∧ P i σ H, ⟨ds.length, by simp, p0⟩, ?_⟩
  rintro i m σ2 H2 ⟨rfl, pi⟩
  obtain ⟨hi, c2, F2, ρ2, hc2, I2, nx, turn⟩ := ps i σ2 H2 pi
  obtain ⟨y1, y2⟩ := y F2 H2 (fun _ _ z => by cases z) I2.fh
  by_cases hlt : i < ds.length
  · obtain ⟨g1, g2⟩ := y1 i ds[i] (by simp [hlt])
    refine .inr ⟨g1, P (i + 1), fun σ' H' q => ⟨ds.length - (i + 1), by omega, rfl, q⟩, fun x H' yy => ?_⟩
    obtain ⟨F3, g3, r3⟩ := g2 x H' yy
    obtain ⟨ρ3, e3, body⟩ := turn ds[i] (by simp [hlt])
    have r3' : Rep c2.G F3 x ds[i] := by rw [hc2, ← hcG]; exact r3
    exact tgt_w (I2.grow g3) r3' e3 fun σ4 I4 _ => body F3 H' σ4 g3.f I4
  · have hi' : i = ds.length := by omega
    subst hi'
    exact .inl ⟨y2, nx rfl⟩
end VS

set_option Elab.async false
set_option linter.all false
set_option maxRecDepth 100000
set_option maxHeartbeats 4000000
namespace VS
open PySem PySem.Spec PyProof.Rows L2
structure CalH (P : Program) (w : World) (G : Gx) (mg : Str → Option Value) (base : Heap) (x : Str) (k : Nat) (sp : Sp) : Prop where
  ex : ∃ (f : Addr) (fd : FuncData) (ps : List Str), mg x = some (.ref f) ∧ PySem.W.keepIn G.K (.ref f) = true ∧ Binds G.K fd ps [] ∧ FnG P w G.K mg base k f fd ps sp
def vaQ (G : Gx) (m : SA) : TA := fun σ H Q => ∃ c : Ctx, c.G = G ∧ va c m σ H Q
section
variable {X : Cx} {G : Gx} {x : Str} {k : Nat} {sp : Sp} {t : TA} {e : Expr} {es : List Expr} {p pos : Pos}
theorem pa_x {es : List Expr} {m : SA} (hh : ∀ c : Ctx, c.G = G → PA X es (va c m)) : PA X es (vaQ G m) := ⟨fun pos pins s σ H Q I ⟨c0, hc, q⟩ => (hh c0 hc).run pos pins s σ H Q I q⟩
theorem pe_callH (C : CalH X.prog X.w G X.mg X.base x k sp) (hK : X.K = G.K) (hgd : X.A.guards = some []) (hr : Room k X.A) (ha : PA X (e :: es) t) (hg : Gl X x := by rfl) (hdb : (x == ("__debug__" : Str)) = false := by decide)
    (he : starEach (e :: es) X.env = (false, eval e X.env) :: starEach es X.env := by rfl) (hpl : (backTo pos (starEach es X.env)).any (·.1) = false := by rfl) : PE X (.Call (.Name x p) (e :: es) [] pos) (tCall sp [] E0 t) := by
  obtain ⟨f, fd, ps, hm, hk, hb, hF⟩ := C.ex
  rw [← hK] at hk hb hF
  exact pe_callG hF hgd hr hg hm hk hb ha hdb he hpl
end
end VS

set_option Elab.async false
set_option linter.all false
set_option maxRecDepth 100000
set_option maxHeartbeats 4000000
namespace VS
open PySem PySem.Spec PyProof.Rows L2
def sLsM (i : Nat) : SE := fun ρ => match conM ρ i with
  | some xs => some (.lst xs, ρ)
  | none => none
theorem ve_listM {X : Cx} {c : Ctx} {a : Expr} {i : Nat} {p pos : Pos} (hm : X.mg "list" = none) (ha : PE X a (tVar i)) (hg : Gl X "list" := by rfl)
    (he : starEach [a] X.env = (false, eval a X.env) :: starEach [] X.env := by rfl) (hpl : (backTo pos (starEach [] X.env)).any (·.1) = false := by rfl) : PE X (.Call (.Name "list" p) [a] [] pos) (vt c (sLsM i)) :=
  pe_of (pe_callTy call_list_of hg hm bt_list (pa_cons ha pa_nil he) (by decide) (by decide) he hpl) fun σ H Q ⟨F, ρ, I, d, ρ', e, q⟩ => by
    unfold sLsM at e
    split at e
    · rename_i xs e0
      cases e
      obtain ⟨p, vs, h0, h2, h3, h4⟩ := I.own e0
      refine ⟨_, h0, ?_⟩
      have q' : Aft c.G F H (.lst xs) Q := fun v H' F' g r => q v H' F' g.f (I.grow g) r
      exact ⟨_, _, rfl, .inl (.of h2), fun p hp => q'.newL I.fh h4 p hp⟩
    · cases e
def sls : Sl → List (List D)
  | .val d => lsts d
  | .own xs => lstss xs
  | _ => []
def rls : Rho → List (List D)
  | [] => []
  | s :: r => sls s ++ rls r
def slP : Sl → Bool
  | .val d => plnD d
  | .own xs => plnDs xs
  | .no => true
  | _ => false
def SlF (G : Gx) (F Ff H : Hp) : Option V → Sl → Prop
  | _, .no => True
  | some v, .val d => Rep G F v d
  | some v, .own xs => ∃ p vs, v = .ref p ∧ Ff p = none ∧ H p = some (.lst vs) ∧ Reps G F vs xs
  | _, _ => False
theorem SlF.ext {G : Gx} {F F' Ff H : Hp} (e : Ext F F') : ∀ {ov : Option V} {s : Sl}, SlF G F Ff H ov s → SlF G F' Ff H ov s
  | none, .no, _ => trivial
  | some _, .no, _ => trivial
  | some _, .val _, h => Rep.ext e h
  | some _, .own _, ⟨p, vs, h1, h2, h3, h4⟩ => ⟨p, vs, h1, h2, h3, h4.ext e⟩
  | none, .val _, h => h
  | none, .own _, h => h
  | none, .bor _, h => h
  | some _, .bor _, h => h
  | none, .slf _ _, h => h
  | some _, .slf _ _, h => h
  | none, .dic _ _ _, h => h
  | some _, .dic _ _ _, h => h
  | none, .lam _, h => h
  | some _, .lam _, h => h
theorem foot_slot {c : Ctx} {F H : Hp} : ∀ {ov : Option V} {s : Sl}, SlOk c F H ov s → slP s = true → ∃ A, SlF c.G (rsA A F) F H ov s ∧ Foot c.G F A (sls s)
  | ov, .no, _, _ => ⟨[], by cases ov <;> trivial, fun a h => by cases h⟩
  | some v, .val d, h, z => Rep.foot h z
  | some v, .own xs, ⟨p, e, h0, hf, vs, hh, r⟩, z => by
    obtain ⟨A, k, f⟩ := Reps.foot r z
    exact ⟨A, ⟨p, vs, e, hf, hh, k⟩, f⟩
  | none, .val _, h, _ => h.elim
  | none, .own _, h, _ => h.elim
  | none, .bor _, h, _ => h.elim
  | some _, .bor _, _, z => by cases z
  | none, .slf _ _, h, _ => h.elim
  | some _, .slf _ _, _, z => by cases z
  | none, .dic _ _ _, h, _ => h.elim
  | some _, .dic _ _ _, _, z => by cases z
  | none, .lam _, h, _ => h.elim
  | some _, .lam _, _, z => by cases z
theorem foot_slots {c : Ctx} {F H : Hp} : ∀ (ρ : Rho) (σ : L2.St), (∀ (i : Nat) s, ρ[i]? = some s → ∃ ov, σ[i]? = some ov ∧ SlOk c F H ov s) → ρ.all slP = true →
    ∃ A, (∀ (i : Nat) s, ρ[i]? = some s → ∃ ov, σ[i]? = some ov ∧ SlF c.G (rsA A F) F H ov s) ∧ Foot c.G F A (rls ρ)
  | [], _, _, _ => ⟨[], fun i s h => by simp at h, fun a h => by cases h⟩
  | s :: r, [], h, _ => by
    obtain ⟨ov, h1, _⟩ := h 0 s rfl
    simp at h1
  | s :: r, o :: σ, h, z => by
    simp only [List.all_cons, Bool.and_eq_true] at z
    obtain ⟨ov, h1, h2⟩ := h 0 s rfl
    have h1 : some o = some ov := h1
    cases h1
    obtain ⟨A, k1, f1⟩ := foot_slot h2 z.1
    obtain ⟨B, k2, f2⟩ := foot_slots r σ (fun i s' e => h (i + 1) s' (by simpa using e)) z.2
    refine ⟨A ++ B, fun i s' e => ?_, f1.app f2⟩
    cases i with
    | zero =>
      have e : some s = some s' := e
      cases e
      exact ⟨o, rfl, k1.ext (rsA_mono fun a h => List.mem_append_left _ h)⟩
    | succ i =>
      obtain ⟨ov, g1, g2⟩ := k2 i s' (by simpa using e)
      exact ⟨ov, by simpa using g1, g2.ext (rsA_mono fun a h => List.mem_append_right _ h)⟩
end VS

set_option Elab.async false
set_option linter.all false
set_option maxRecDepth 100000
set_option maxHeartbeats 4000000
namespace VS
open PySem PySem.Spec PyProof.Rows L2
abbrev NT (o : HO) : Prop := ∀ ps, o ≠ .tbl ps
def Fr (H H' : Hp) : Prop := ∀ q o, H q = some o → NT o → H' q = some o
abbrev Al (H H' : Hp) : Prop := ∀ q o, H q = some o → ∃ o', H' q = some o'
theorem Fr.refl (H : Hp) : Fr H H := fun _ _ e _ => e
theorem Fr.trans {H H1 H2 : Hp} (a : Fr H H1) (b : Fr H1 H2) : Fr H H2 := fun q o e n => b q o (a q o e n) n
section
variable {G : Gx} {F F' : Hp}
mutual
theorem KV1.toN (e : Fr F F') : ∀ {v : V} {k : NestedKey}, KV1 F v k → KV1 F' v k
  | _, _, .non => .non
  | _, _, .int i => .int i
  | _, _, .str x => .str x
  | _, _, .tup h r => .tup (e _ _ h fun _ z => by cases z) (KV1s.toN e r)
theorem KV1s.toN (e : Fr F F') : ∀ {vs : List V} {ks : List NestedKey}, KV1s F vs ks → KV1s F' vs ks
  | _, _, .nil => .nil
  | _, _, .cons h r => .cons (KV1.toN e h) (KV1s.toN e r)
end
theorem SqL.toN {K : PySem.W.Frag} {a : Addr} {xs : List V} (e : Fr F F') (h : SqL K F a xs) : SqL K F' a xs := by
  rcases h with (h | ⟨o, h⟩) | h
  · exact .inl (.inl (e _ _ h nt_lst))
  · exact .inl (.inr ⟨o, e _ _ h (fun _ z => by cases z)⟩)
  · exact .inr h
theorem DicAt.toN {w : World} {b : Bool} {od : Option Obj} {p : Addr} {ks : List NestedKey} {vs : List V} (e : Fr F F') (d : DicAt w b od F F p ks vs) : DicAt w b od F' F' p ks vs := by
  cases b with
  | true =>
    obtain ⟨xs, d⟩ := d
    exact ⟨xs, e _ _ d.at_ (lk_nt raw_nt), d.sys, d.kse, d.nd, d.vse, fun x hx => ⟨(d.ky x hx).1.toN e, (d.ky x hx).2⟩, d.ln⟩
  | false => obtain ⟨kvs, d, r⟩ := d; exact ⟨kvs, e _ _ d (lk_nt dK_nt), r⟩
mutual
theorem Rep.toN (e : Fr F F') : ∀ {v : V} {d : D}, Rep G F v d → Rep G F' v d
  | _, _, .non => .non
  | _, _, .bl b => .bl b
  | _, _, .int i => .int i
  | _, _, .str x => .str x
  | _, _, .adr a => .adr a
  | _, _, .lst h r => .lst (e _ _ h nt_lst) (Reps.toN e r)
  | _, _, .scr h r => .scr (SqL.toN e h) (Reps.toN e r)
  | _, _, .tup h r => .tup (e _ _ h fun _ z => by cases z) (Reps.toN e r)
  | _, _, .ins h n r => .ins (e _ _ h fun _ z => by cases z) n (Reps.toN e r)
  | _, _, .dct h r => .dct (h.toN e) (Reps.toN e r)
  | _, _, .exc h h2 r => .exc (e _ _ h fun _ z => by unfold exq at z; cases z) (e _ _ h2 fun _ z => by cases z) (Rep.toN e r)
  | _, _, .bth r => .bth (Rep.toN e r)
theorem Reps.toN (e : Fr F F') : ∀ {vs : List V} {ds : List D}, Reps G F vs ds → Reps G F' vs ds
  | _, _, .nil => .nil
  | _, _, .cons h r => .cons (Rep.toN e h) (Reps.toN e r)
end
end
def noP (P : List Addr) (H : Hp) : Hp := fun b => if b ∈ P then none else noTab H b
theorem noP_ext {P : List Addr} {H : Hp} : Ext (noP P H) H := fun b o e => by
  unfold noP at e
  split at e
  · cases e
  · exact noTab_ext b o e
theorem noP_of {P : List Addr} {H : Hp} {b : Addr} {o : HO} (h : H b = some o) (n : NT o) (hb : b ∉ P) : noP P H b = some o := by
  unfold noP; rw [if_neg hb]; exact noTab_of h n
theorem noP_in {P : List Addr} {H : Hp} {b : Addr} (hb : b ∈ P) : noP P H b = none := if_pos hb
theorem noP_tb {T : List (Addr × Str)} {P : List Addr} {H : Hp} (t : LamX.Tabs T H) : TbOk T (noP P H) H := ⟨t, fun p hp => by
  unfold noP
  split
  · rfl
  · exact (noTab_tb t).n p hp⟩
abbrev nL (H : Hp) : Hp := rsA [] H
theorem nL_of {H : Hp} {b : Addr} {o : HO} (h : H b = some o) (n : ∀ us, o ≠ .lst us) (n2 : NT o) : nL H b = some o := rsA_of h n n2
theorem nL_no {H : Hp} {b : Addr} {o : HO} (h : nL H b = some o) : ∀ us, o ≠ .lst us := fun us e => by subst e; cases rsA_lst h
theorem nL_to {H H' : Hp} (k : ∀ q o, H q = some o → NT o → (∀ us, o ≠ .lst us) → H' q = some o) : Fr (nL H) (nL H') := fun q o e n => nL_of (k q o (rsA_ext q o e) n (nL_no e)) (nL_no e) n
theorem nL_fr {H H' : Hp} (k : Fr H H') : Fr (nL H) (nL H') := nL_to fun q o e n _ => k q o e n
theorem nL_noP {P : List Addr} {H : Hp} (hp : ∀ p ∈ P, ∃ us, H p = some (.lst us)) : Fr (nL H) (noP P H) := fun q o e n => noP_of (rsA_ext q o e) n fun z => by
  obtain ⟨us, h⟩ := hp q z
  rw [rsA_ext q o e] at h
  exact nL_no e us (Option.some.inj h)
theorem ok_vals {G : Gx} {F H : Hp} {σ : L2.St} {ρ : Rho} (e : Ext F H) (tb : TbOk G.T F H) (len : σ.length = ρ.length)
    (h : ∀ (i : Nat) s, ρ[i]? = some s → s = .no ∨ ∃ d v, s = .val d ∧ σ[i]? = some (some v) ∧ Rep G F v d) : Ok ⟨G, F, H, []⟩ F H σ ρ where
  len := len
  f0 := Ext.rfl'
  fh := e
  fr := fun q o e _ _ => e
  al := fun q o e => ⟨o, e⟩
  n0 := fun q o _ n => n
  sl := fun j s' e => by
    have hl : j < ρ.length := (List.getElem?_eq_some_iff.mp e).1
    have hs : j < σ.length := by rw [len]; exact hl
    rcases h j s' e with z | ⟨d, v, z, h1, h2⟩
    · subst z
      refine ⟨σ[j], by rw [List.getElem?_eq_getElem hs], ?_⟩
      cases σ[j] <;> trivial
    · subst z
      exact ⟨some v, h1, h2⟩
  ap := fun a b s t p' q' ha hb ms mt _ _ _ => by
    rcases h a s ha with z | ⟨d, v, z, _, _⟩ <;> subst z <;> cases ms
  hb := fun q hq => by cases hq
  tb := tb
theorem Ok.fr' {G : Gx} {F0 H0 F H : Hp} {σ : L2.St} {ρ : Rho} (I : Ok ⟨G, F0, H0, []⟩ F H σ ρ) : Fr H0 H := fun q o e n => I.fr q o e List.not_mem_nil n
theorem Ok.valAt {c : Ctx} {F H : Hp} {σ : L2.St} {ρ : Rho} {i : Nat} {d : D} (I : Ok c F H σ ρ) (h : ρ[i]? = some (.val d)) : ∃ v, σ[i]? = some (some v) ∧ Rep c.G F v d := by
  obtain ⟨ov, h1, h2⟩ := I.sl i _ h
  cases ov with
  | none => exact h2.elim
  | some v => exact ⟨v, h1, h2⟩
theorem Ok.feet {G : Gx} {F H : Hp} {c : Ctx} {σ : L2.St} {ρ : Rho} (I : Ok c F H σ ρ) (hc : c.G = G) (hs : ρ.all slP = true) (hv : ∀ (i : Nat) s, ρ[i]? = some s → s = .no ∨ ∃ d, s = .val d) :
    ∃ Fm, Ext Fm F ∧ Ok ⟨G, Fm, H, []⟩ Fm H σ ρ ∧ ∀ q us, Fm q = some (.lst us) → ∃ ds, ds ∈ rls ρ ∧ Reps G Fm us ds := by
  subst hc
  obtain ⟨A, k, ft⟩ := foot_slots ρ σ I.sl hs
  refine ⟨rsA A F, rsA_ext, ok_vals (rsA_ext.trans I.fh) ⟨I.tb.t, fun p hp => ext_none rsA_ext (I.tb.n p hp)⟩ I.len fun i s e => ?_, fun q us e => ?_⟩
  · rcases hv i s e with z | ⟨d, z⟩
    · exact .inl z
    · subst z
      obtain ⟨ov, g1, g2⟩ := k i _ e
      cases ov with
      | none => exact g2.elim
      | some v => exact .inr ⟨d, v, rfl, g1, g2⟩
  · obtain ⟨us', ds, g1, g2, g3⟩ := ft q (rsA_lst e)
    rw [rsA_ext q _ e] at g1
    cases g1
    exact ⟨ds, g3, g2⟩
theorem new_of {G : Gx} {H Fm F H' : Hp} {σ : L2.St} {ρ : Rho} {L : List (List D)} {p : Addr} {us : List V} {ys : List D} (I : Ok ⟨G, Fm, H, []⟩ F H' σ ρ) (ft : ∀ q us, Fm q = some (.lst us) → ∃ ds, ds ∈ L ∧ Reps G Fm us ds) (hp : F p = some (.lst us)) (rp : Reps G F us ys)
    (ha : ∀ l ∈ L, apt l ys = true) : H p = none := by
  cases hh : H p with
  | none => rfl
  | some o =>
    cases h0 : Fm p with
    | none =>
      have := I.n0 p o hh h0
      rw [hp] at this
      cases this
    | some o' =>
      have e := I.f0 p o' h0
      rw [hp] at e
      cases e
      obtain ⟨ds, g1, g2⟩ := ft p us h0
      exact (apt_no (ha ds g1) F us (g2.ext I.f0) rp).elim
theorem Reps.nl {G : Gx} {F H : Hp} {us : List V} {ds : List D} (r : Reps G F us ds) (e : Ext F H) (hp : plnDs ds = true) (hl : lstss ds = []) : Reps G (nL H) us ds := by
  obtain ⟨A, k, ft⟩ := Reps.foot r hp
  rw [hl] at ft
  have hA : ∀ a, a ∉ A := fun a ha => by
    obtain ⟨_, _, _, _, z⟩ := ft a ha
    cases z
  refine k.ext fun b o eb => nL_of (e _ _ (rsA_ext b o eb)) (fun us z => ?_) (rsA_tbl eb)
  subst z
  exact hA b (rsA_lst eb)
theorem vtQ_new {G : Gx} {H : Hp} {σ : L2.St} {ρ ρ' : Rho} {m : SE} {ds : List D} {Q : VK} {c : Ctx} {F : Hp} (I : Ok c F H σ ρ) (hc : c.G = G) (hs : ρ.all slP = true) (hv : ∀ (i : Nat) s, ρ[i]? = some s → s = .no ∨ ∃ d, s = .val d)
    (e : m ρ = some (.lst ds, ρ')) (ha : ∀ l ∈ rls ρ, apt l ds = true) (hp : plnDs ds = true) (hl : lstss ds = [])
    (k : ∀ p zs H1, H p = none → H1 p = some (.lst zs) → Fr H H1 → Al H H1 → LamX.Tabs G.T H1 → Reps G (nL H1) zs ds → Q (.ref p) H1) : vtQ G m σ H Q := by
  obtain ⟨Fm, _, J, ft⟩ := I.feet hc hs hv
  refine ⟨⟨G, Fm, H, []⟩, rfl, Fm, ρ, J, _, _, e, fun v H1 F1 x1 I1 r1 => ?_⟩
  cases r1 with
  | @lst p zs _ h1 r2 => exact k p zs H1 (new_of I1 ft h1 r2 ha) (I1.fh _ _ h1) I1.fr' I1.al I1.tb.t (r2.nl I1.fh hp hl)
section
variable {X : Cx} {G : Gx} {pins : List (Addr × Obj)} {σ : L2.St} {F H : Hp} {s : Shared}
end
end VS

set_option Elab.async false
set_option linter.all false
set_option maxRecDepth 100000
set_option maxHeartbeats 4000000
namespace VS
open PySem PySem.Spec PyProof.Rows L2
section
variable {X : Cx} {G : Gx}
def gListS : GL
  | [.lst xs] => some (.lst xs)
  | [.tup xs] => some (.lst xs)
  | [.scr xs] => some (.lst xs)
  | _ => none
theorem ca_listS {c : Ctx} (hK : X.K = c.G.K) : CaD c X (.type "list") gListS := car_of call_list_of fun xs H Q ⟨F, ds, d, e, r, hg, q⟩ => by
  unfold gListS at hg
  split at hg
  · cases hg
    obtain ⟨a, vs, h1, h2, rs⟩ := lst1 e r
    exact ⟨a, _, h1, .inl (.of h2), fun p hp => q.newL e rs p hp⟩
  · cases hg
    obtain ⟨a, vs, h1, _, h2, rs⟩ := tup1 e r
    exact ⟨a, _, h1, .inr (.of h2), fun p hp => q.newL e rs p hp⟩
  · cases hg
    cases r with
    | cons r1 r2 =>
      cases r2
      cases r1 with
      | scr h1 rs => exact ⟨_, _, rfl, .inl (hK ▸ h1.ext e), fun p hp => q.newL e rs p hp⟩
  · cases hg
end
end VS

set_option Elab.async false
set_option linter.all false
set_option maxRecDepth 100000
set_option maxHeartbeats 4000000
namespace VS
open PySem PySem.Spec PyProof.Rows L2
def gTupleS : GL
  | [.lst xs] => some (.tup xs)
  | [.tup xs] => some (.tup xs)
  | [.scr xs] => some (.tup xs)
  | _ => none
def gAddS : G2
  | .scr a, .lst b => if a.length + b.length ≤ LN then some (.lst (a ++ b)) else none
  | _, _ => none
section
variable {c : Ctx} {X : Cx}
theorem ca_tupleS (hK : X.K = c.G.K) : CaD c X (.type "tuple") gTupleS := car_of call_tuple_of fun xs H Q ⟨F, ds, d, e, r, hg, q⟩ => by
  unfold gTupleS at hg
  split at hg
  · cases hg
    obtain ⟨a, vs, h1, h2, rs⟩ := lst1 e r
    exact ⟨a, _, h1, .inl ⟨.of h2, fun p hp => q.newT e rs p hp⟩⟩
  · cases hg
    obtain ⟨a, vs, h1, h0, h2, rs⟩ := tup1 e r
    exact ⟨a, _, h1, .inr ⟨.of h2, q.here e (.tup h0 rs)⟩⟩
  · cases hg
    cases r with
    | cons r1 r2 =>
      cases r2
      cases r1 with
      | scr h1 rs => exact ⟨_, _, rfl, .inl ⟨hK ▸ h1.ext e, fun p hp => q.newT e rs p hp⟩⟩
  · cases hg
def rCatS (K : PySem.W.Frag) : R2 := fun x y H Q => ∃ l b xs zs, x = .ref l ∧ y = .ref b ∧ SqL K H l xs ∧ SqL K H b zs ∧ xs.length + zs.length ≤ sizeLine ∧ ∀ p, H p = none → Q (.ref p) (upd H p (.lst (xs ++ zs)))
open AutoSeq1 in
theorem add_any (l b : Addr) (us ws : Array Value) (n m : Nat) (d1 d2 : Option Addr) (s1 s2 : Array (Option Value)) (hz : us.size + ws.size ≤ sizeLine) :
    Meets (Builtin.«list.__add__» ⟨[.ref l, .ref b], []⟩) (fun _ R s =>
      s.heap.get? l = some ⟨.type "list", d1, .seq us n, s1⟩ ∧
      s.heap.get? b = some ⟨.type "list", d2, .seq ws m, s2⟩ ∧
      R (.ok (.ret (Value.ref s.heap.objs.size))) { s with heap := s.heap.push { cls := .type "list", data := .seq (us ++ ws) }, toks := s.toks }) :=
  .of_wp fun prog w A R s h => by
    obtain ⟨hp, g, d, tk, os⟩ := s
    obtain ⟨hl, hb, h⟩ := h
    have f1 := idx_int
    have f2 := AutoSeq1.sub_tuple_tuple
    have f3 := AutoSeq1.sub_list_list
    have f4 := AutoSeq1.sub_tuple_list
    have f5 := AutoSeq1.sub_list_tuple
    wp_walk using wpAny_loadPart' hl, wpAny_loadPart' hb
    exact ⟨_, rfl, h⟩
theorem op_catS : OpR X (binaryOp .Add) (rCatS X.K) := by
  intro pins s σ H x y v u Q I rx ry h
  obtain ⟨l, b, xs, zs, rfl, rfl, hH, hB, hz, q⟩ := h
  cases rx
  cases ry
  obtain ⟨its, r, ⟨⟨c1, d1, a1, s1⟩, n, e1, k1, k2, k3⟩, _⟩ := I.list hH
  obtain ⟨its2, r2, ⟨⟨c2, d2, a2, s2⟩, m, e2, l1, l2, l3⟩, _⟩ := I.list hB
  have hl := r.length
  have hl2 := r2.length
  simp only at k1 k2 k3 l1 l2 l3
  subst k1 k2 k3 l1 l2 l3
  refine concat_meets ⟨_, e1, rfl⟩ ⟨_, e2, rfl⟩ noFill_list_add seq_list_add PySem.F.slot_list_add PySem.F.entry_list_add (PySem.F.args_list_add_2 _ _) (add_any l b its.toArray its2.toArray n m none none s1 s2 (by rw [List.size_toArray, List.size_toArray]; omega)) ⟨e1, e2, ?_⟩
  have ea : its.toArray ++ its2.toArray = (its ++ its2).toArray := by simp
  rw [ea]
  exact ⟨.ref _, _, I.lnew (t' := s.toks) (r.append r2) (by rw [List.length_append]; omega), rfl, q _ I.fresh⟩
theorem od_addS (hK : X.K = c.G.K) : OpD c X (binaryOp .Add) gAddS := opr_of op_catS fun x y H Q ⟨F, a, b, d, e, ra, rb, hg, q⟩ => by
  unfold gAddS at hg
  split at hg
  · split at hg
    · rename_i h
      cases hg
      cases ra with
      | scr h1 r1 =>
        cases rb with
        | lst h2 r2 => exact ⟨_, _, _, _, rfl, rfl, hK ▸ h1.ext e, .of (e _ _ h2), by rw [r1.length, r2.length]; exact ln_fit h, fun p hp => q.newL e (r1.append r2) p hp⟩
    · cases hg
  · cases hg
end
def NfB (K : PySem.W.Frag) (C : Addr) : Prop := PySem.W.subIn K (.type "NoneType") (.ref C) = some false ∧ PySem.W.subIn K (.type "tuple") (.ref C) = some false
def isNT : D → Bool
  | .non => true
  | .tup _ => true
  | _ => false
section
variable {c : Ctx} {X : Cx} {k t : Nat} {m : Mir} {x : Str}
def rMtA (G : Gx) (t : Nat) (m : Mir) : R2 := fun x y H Q => (∃ a dx us, x = .ref a ∧ H a = some (.ins (G.cls t) dx us)) ∧ (y = .non ∨ ∃ b us, y = .ref b ∧ H b = some (.tup us)) ∧ spV G 2 m [x, y] H Q E0
theorem op_mtA {op : CmpOp} (C : CalO X.prog X.w c.G X.mg X.base t x k 2 m) (NF : NfB c.G.K (c.G.cls t)) (hop : ∀ a b, compareOp op a b = richCompare op a b) (hx : (cmpInfo op).2.1 = x) (hK : X.K = c.G.K) (hr : Room k X.A) : OpR X (compareOp op) (rMtA c.G t m) := by
  obtain ⟨f, fd, ps, h1, h2, h3, h4, h5⟩ := C.ex
  rw [← hK] at h1 h2 h4 h5 NF
  intro pins s σ H x' y' v u Q I rx ry ⟨⟨a, dx, us, ea, ha⟩, hy, sp⟩
  subst ea
  obtain rfl : v = Value.ref a := rx
  obtain ⟨od, J⟩ := inst_at I ha
  obtain ⟨mm, hF⟩ := I.fr
  rw [hop]
  obtain ⟨tb, hb, hn⟩ : ∃ tb, (∀ M, PySem.W.Looks M s.heap (typeOf u) tb) ∧ PySem.W.notFirst X.K (c.G.cls t) tb = true := by
    rcases hy with rfl | ⟨b, ws, rfl, hb⟩
    · cases ry
      exact ⟨.type "NoneType", fun M => PySem.W.Looks.now, by simp [PySem.W.notFirst, NF.1]⟩
    · cases ry
      obtain ⟨its, r, ⟨o, e1, e2, _⟩, _⟩ := I.tuple (.of hb)
      exact ⟨.type "tuple", fun M => e2 ▸ (PySem.W.Looks.ld e1).andThen .now, by simp [PySem.W.notFirst, NF.2]⟩
  refine PySem.W.cmp_K hr.units0 hF I.ok.mod.kin J (hb _) hn (by rw [hx]; exact h1) h2 (wpAny_mono (run_at h5 hr rfl h4 I (.cons relA (.cons ry .nil)) sp) (fun w' s' z => ?_) fun _ _ z => z)
  obtain ⟨z', H', I', rz, qz⟩ := z
  exact cmpBack_of rz ⟨z', H', I', rz, qz⟩
def sMtA (t : Nat) (m : Mir) (a b : SE) : SE := fun ρ => match a ρ with
  | some (x, ρ1) => match b ρ1 with
    | some (y, ρ2) => if isI t x = true ∧ isNT y = true then match m [.val x, .val y] with
      | some (d, _) => some (d, ρ2)
      | none => none
      else none
    | none => none
  | none => none
theorem mtA_w {sa sb : SE} (σ : L2.St) (H : Hp) (Q : VK) (h : vt c (sMtA t m sa sb) σ H Q) : tOp (rMtA c.G t m) (vt c sa) (vt c sb) σ H Q := by
  obtain ⟨F, ρ, I, d, ρ', e, q⟩ := h
  unfold sMtA at e
  split at e
  · rename_i x ρ1 e1
    split at e
    · rename_i y ρ2 e2
      split at e
      · rename_i hi
        split at e
        · rename_i d' out e3
          cases e
          refine ⟨F, ρ, I, x, ρ1, e1, fun v H1 F1 x1 I1 r1 => ⟨F1, ρ1, I1, y, ρ', e2, fun u H2 F2 x2 I2 r2 => ?_⟩⟩
          obtain ⟨fs, ex⟩ := isI_inv hi.1
          have r1' := r1.ext x2
          rw [ex] at r1'
          obtain ⟨a, dx, us, a1, a2, _⟩ := r1'.ins_at
          refine ⟨⟨a, dx, us, a1, I2.fh _ _ a2⟩, ?_, sp_of I2 (ds := [x, y]) (.cons (r1.ext x2) (.cons r2 .nil)) rfl e3 fun v' H' F' x' I' r' => q v' H' F' ((x1.trans x2).trans x') I' r'⟩
          cases r2 with
          | non => exact .inl rfl
          | tup g _ => exact .inr ⟨_, _, rfl, I2.fh _ _ g⟩
          | _ => exact absurd hi.2 (by simp [isNT])
        · cases e
      · cases e
    · cases e
  · cases e
theorem vt_mtA {a b : Expr} {sa sb : SE} {pos : Pos} {op : CmpOp} (C : CalO X.prog X.w c.G X.mg X.base t x k 2 m) (NF : NfB c.G.K (c.G.cls t)) (hop : ∀ a b, compareOp op a b = richCompare op a b) (hx : (cmpInfo op).2.1 = x) (hK : X.K = c.G.K) (hr : Room k X.A) (ha : PE X a (vt c sa)) (hb : PE X b (vt c sb)) (hm : behindInMarks op b = false := by first | exact nomark _ | rfl) :
    PT X (.Compare a [op] [b] pos) (vb c (sB (sMtA t m sa sb))) :=
  pt_of (pt_cmpR (op_mtA C NF hop hx hK hr) ha hb hm) fun _ _ _ h => vb_test (fun _ => mtA_w _ _ _) h
end
section
variable {X : Cx} {G : Gx}
theorem pe_callN {f : Str} {e : Expr} {es : List Expr} {t : TA} {k n : Nat} {m : MirM} {p cpos : Pos} (C : CalM X.prog X.w G X.mg X.base f k n m) (hK : X.K = G.K) (hr : Room k X.A) (ha : PA X (e :: es) t) (hg : Gl X f := by rfl) (hdb : (f == ("__debug__" : Str)) = false := by decide)
    (he : starEach (e :: es) X.env = (false, eval e X.env) :: starEach es X.env := by rfl) (hpl : (backTo cpos (starEach es X.env)).any (·.1) = false := by rfl) :
    PE X (.Call (.Name f p) (e :: es) [] cpos) (tCall (spM G n m) [] E0 t) := by
  obtain ⟨fa, fd, ps, hm, hk, hb, hF⟩ := C.ex
  rw [← hK] at hk hb hF
  exact pe_call hF hr hg hm hk hb .nil pass0 ha hdb he hpl
end
end VS

set_option Elab.async false
set_option linter.all false
set_option maxRecDepth 100000
set_option maxHeartbeats 8000000
namespace Toy
open PySem PySem.Spec PyProof.Rows L2 VS
def top (i : Nat) : Stmt := PySem.Challenge.pw_agedreads_k02_steps_made.main.body.getD i (.Pass ⟨0, 0, 0, 0⟩)
def ct_InvalidStep : List Nat := [1]
def xvs : List Nat := [1]
abbrev oNo : Addr → Option Str := fun _ => none
structure Txt (G : Gx) (mg : Str → Option Value) : Prop where
  n_bool : mg "bool" = none
  n_int : mg "int" = none
  n_isinstance : mg "isinstance" = none
  n_len : mg "len" = none
  n_list : mg "list" = none
  n_max : mg "max" = none
  n_range : mg "range" = none
  n_repr : mg "repr" = none
  n_set : mg "set" = none
  n_sorted : mg "sorted" = none
  n_str : mg "str" = none
  n_super : mg "super" = none
  n_tuple : mg "tuple" = none
  g_LETTERS : ∃ u, mg "LETTERS" = some u ∧ L2.RelV (.str "abcdefghijklmnopqrstuvwxyz") u
  c0 : ClsOk G.K (G.cls 0)
  g0 : mg "Step" = some (.ref (G.cls 0))
  nf0 : (G.fld 0).length = 4
  a0_label : NoAttr G.K (G.cls 0) "label"
  l0_label : look "label" (G.fld 0) = some 0
  a0_turn : NoAttr G.K (G.cls 0) "turn"
  l0_turn : look "turn" (G.fld 0) = some 1
  a0_lag : NoAttr G.K (G.cls 0) "lag"
  l0_lag : look "lag" (G.fld 0) = some 2
  a0_sources : NoAttr G.K (G.cls 0) "sources"
  l0_sources : look "sources" (G.fld 0) = some 3
  nbi0 : NoBi G.K (G.cls 0)
  nfb0 : NfB G.K (G.cls 0)
  ne0 : NeO G.K (G.cls 0)
  xv : XvAll G.K G [1]
  ct_InvalidStep : CatchX G.K G mg "InvalidStep" [1]
abbrev N_law_purse : List Str := ["_law_script", "_law_at", "_law_cell"]
abbrev s_law_purse : Stmt := top 11
theorem sc_law_purse : FnScope N_law_purse ["_law_script", "_law_at"] (defScope s_law_purse) := ⟨rfl, rfl, rfl, by decide +kernel, rfl, by decide +kernel, by decide +kernel⟩
def b_law_purse : SS := (kS (kSet 2 (sK (.int 0)))
    (kS (kIf (sB (s2 gLt (sV 1) (sL gLen (aC (sV 0) aN))))
    (kSet 2 (s2 gIx (sV 0) (sV 1))) kN)
    (kRetL (aC (s2 gMod (sL gInt (aC (sL gMax (aC (s2 gSub (sV 2) (s2 gPow (sK (.int 10)) (sK (.int 18)))) (aC (sK (.int 0)) aN))) aN)) (s2 gPow (s2 gPow (sK (.int 10)) (sK (.int 40))) (sK (.int 10)))) (aC (s2 gMod (sL gInt (aC (sV 2) aN)) (sK (.int 2147483629))) (aC (sK (.int 0)) aN))))))
def m_law_purse : MirM := mirM 3 b_law_purse
abbrev N_law_draw : List Str := ["_law_purse_here", "_law_many", "_law_drawn", "_law_turn", "_law_number"]
abbrev s_law_draw : Stmt := top 12
theorem sc_law_draw : FnScope N_law_draw ["_law_purse_here", "_law_many"] (defScope s_law_draw) := ⟨rfl, rfl, rfl, by decide +kernel, rfl, by decide +kernel, by decide +kernel⟩
def b_law_draw : SS := (kS (kIf (sB (s2 gGt (sIxM 0 (sK (.int 0))) (sK (.int 0))))
    (kS (kSet 2 (s2 gMod (sL gInt (aC (sIxM 0 (sK (.int 0))) aN)) (sV 1)))
    (kS (kPut 0 (sK (.int 0)) (s2 gFdiv (sIxM 0 (sK (.int 0))) (sV 1)))
    (kRet (sV 2)))) kN)
    (kS (kSet 3 (s2 gAdd (sIxM 0 (sK (.int 2))) (sK (.int 1))))
    (kS (kPut 0 (sK (.int 2)) (sV 3))
    (kS (kSet 4 (s2 gMod (sL gInt (aC (s2 gMul (s2 gAdd (sIxM 0 (sK (.int 1))) (s2 gMul (sK (.int 104729)) (sV 3))) (s2 gAdd (s2 gMul (sV 3) (sV 3)) (sK (.int 7919)))) aN)) (sK (.int 2147483629))))
    (kS (kSet 4 (s2 gMod (sL gInt (aC (s2 gAdd (s2 gMul (sV 4) (sV 4)) (sV 3)) aN)) (sK (.int 2147483587))))
    (kRet (s2 gMod (s2 gFdiv (s2 gMod (sL gInt (aC (s2 gMul (sV 4) (sK (.int 48271))) aN)) (sK (.int 2147483647))) (sK (.int 64))) (sV 1))))))))
def m_law_draw : Mir := mir 5 b_law_draw
abbrev N_law_pick : List Str := ["_law_purse_here", "_law_items"]
abbrev s_law_pick : Stmt := top 13
theorem sc_law_pick : FnScope N_law_pick ["_law_purse_here", "_law_items"] (defScope s_law_pick) := ⟨rfl, rfl, rfl, by decide +kernel, rfl, by decide +kernel, by decide +kernel⟩
def b_law_pick : SS := (kRet (s2 gIx (sV 1) (sCallM 2 m_law_draw 0 (aC (sL gLen (aC (sV 1) aN)) aN))))
def m_law_pick : Mir := mir 2 b_law_pick
abbrev N_law_names : List Str := ["_law_purse_here", "_law_many", "_law_first", "_law_word", "_law_letters", "_law_at"]
abbrev s_law_names : Stmt := top 14
theorem sc_law_names : FnScope N_law_names ["_law_purse_here", "_law_many"] (defScope s_law_names) := ⟨rfl, rfl, rfl, by decide +kernel, rfl, by decide +kernel, by decide +kernel⟩
def b_law_names : SS := (kS (kTup [2, 3] (sL gTup (aC (sCallM 2 m_law_draw 0 (aC (sK (.int 26)) aN)) (aC (sCallM 2 m_law_pick 0 (aC (sL gLst (aC (sK (.str "")) (aC (sK (.str "a")) (aC (sK (.str "zz")) (aC (sK (.str "step")) (aC (sK (.str "runner")) (aC (sK (.str "qqqqqqq")) aN))))))) aN)) aN))))
    (kS (kSet 4 (sK (.str "abcdefghijklmnopqrstuvwxyz")))
    (kRet (sComp (iR (aC (sV 1) aN)) (.nm 5) bYes (s2 gAdd (sV 3) (s2 gIx (sV 4) (s2 gSub (s2 gAdd (sV 2) (s2 gMul (sK (.int 3)) (sV 5))) (s2 gMul (s2 gFdiv (s2 gAdd (sV 2) (s2 gMul (sK (.int 3)) (sV 5))) (sK (.int 26))) (sK (.int 26))))))))))
def m_law_names : Mir := mir 6 b_law_names
abbrev N_is_name : List Str := ["value", "letter"]
abbrev s_is_name : Stmt := top 6
theorem sc_is_name : FnScope N_is_name ["value"] (defScope s_is_name) := ⟨rfl, rfl, rfl, by decide +kernel, rfl, by decide +kernel, by decide +kernel⟩
def b_is_name : SS := (kS (kIf (bOr (bNot (sB (s1 (gIsTy2 2) (sV 0)))) (bNot (sB (sCh gLe gLe (sK (.int 1)) (sL gLen (aC (sV 0) aN)) (sK (.int 8))))))
    (kRet (sK (.bl false))) kN)
    (kRet (s2 gEqL (sComp (iStr (sV 0)) (.nm 1) (sB (s2 gNotIn (sV 1) (sK (.str "abcdefghijklmnopqrstuvwxyz")))) (sV 1)) (sL gLst aN))))
def m_is_name : Mir := mir 2 b_is_name
abbrev N_is_whole : List Str := ["value"]
abbrev s_is_whole : Stmt := top 5
theorem sc_is_whole : FnScope N_is_whole ["value"] (defScope s_is_whole) := ⟨rfl, rfl, rfl, by decide +kernel, rfl, by decide +kernel, by decide +kernel⟩
def b_is_whole : SS := (kRet (sAnd (s1 (gIsTy2 1) (sV 0)) (s1 gNot (s1 (gIsTy2 0) (sV 0)))))
def m_is_whole : Mir := mir 1 b_is_whole
abbrev N_are_names : List Str := ["value", "one"]
abbrev s_are_names : Stmt := top 7
theorem sc_are_names : FnScope N_are_names ["value"] (defScope s_are_names) := ⟨rfl, rfl, rfl, by decide +kernel, rfl, by decide +kernel, by decide +kernel⟩
def b_are_names : SS := (kS (kIf (bOr (bNot (sB (s1 (gIsTy2 3) (sV 0)))) (sB (s2 gNe (sComp (iSeq (sV 0)) (.nm 1) (bNot (sB (sCall 1 m_is_name (aC (sV 1) aN)))) (sV 1)) (sL gLst aN))))
    (kRet (sK (.bl false))) kN)
    (kRet (s2 gEq (s1 gLenSet (sV 0)) (sL gLen (aC (sV 0) aN)))))
def m_are_names : Mir := mir 2 b_are_names
abbrev N_Step_init : List Str := ["self", "name", "period", "delay", "reads"]
abbrev s_Step_init : Stmt := inClass (top 9) 0
theorem sc_Step_init : FnScope N_Step_init ["self", "name", "period", "delay", "reads"] (defScope s_Step_init) := ⟨rfl, rfl, rfl, by decide +kernel, rfl, by decide +kernel, by decide +kernel⟩
def b_Step_init : SS := (kS (kIf (bOr (bNot (sB (sCall 1 m_is_name (aC (sV 1) aN)))) (bOr (bNot (sB (sCall 1 m_is_whole (aC (sV 2) aN)))) (bOr (bNot (sB (sCall 1 m_is_whole (aC (sV 3) aN)))) (bNot (sB (sCall 1 m_are_names (aC (sV 4) aN)))))))
    kNever kN)
    (kS (kIf (bOr (sB (s2 gLt (sV 2) (sK (.int 1)))) (sB (s2 gLt (sV 3) (sK (.int 0)))))
    kNever kN)
    (kS (kSelf 0 0 (sV 1))
    (kS (kSelf 0 1 (sV 2))
    (kS (kSelf 0 2 (sV 3))
    (kSelf 0 3 (sL gTuple (aC (sV 4) aN))))))))
def m_Step_init : Mir := mir 5 b_Step_init
abbrev N_Step_name : List Str := ["self"]
abbrev s_Step_name : Stmt := inClass (top 9) 1
theorem sc_Step_name : FnScope N_Step_name ["self"] (defScope s_Step_name) := ⟨rfl, rfl, rfl, by decide +kernel, rfl, by decide +kernel, by decide +kernel⟩
def b_Step_name : SS := (kRet (s1 (gFld 0 0) (sV 0)))
def m_Step_name : Mir := mir 1 b_Step_name
abbrev N_Step_period : List Str := ["self"]
abbrev s_Step_period : Stmt := inClass (top 9) 2
theorem sc_Step_period : FnScope N_Step_period ["self"] (defScope s_Step_period) := ⟨rfl, rfl, rfl, by decide +kernel, rfl, by decide +kernel, by decide +kernel⟩
def b_Step_period : SS := (kRet (s1 (gFld 0 1) (sV 0)))
def m_Step_period : Mir := mir 1 b_Step_period
abbrev N_Step_delay : List Str := ["self"]
abbrev s_Step_delay : Stmt := inClass (top 9) 3
theorem sc_Step_delay : FnScope N_Step_delay ["self"] (defScope s_Step_delay) := ⟨rfl, rfl, rfl, by decide +kernel, rfl, by decide +kernel, by decide +kernel⟩
def b_Step_delay : SS := (kRet (s1 (gFld 0 2) (sV 0)))
def m_Step_delay : Mir := mir 1 b_Step_delay
abbrev N_Step_reads : List Str := ["self"]
abbrev s_Step_reads : Stmt := inClass (top 9) 4
theorem sc_Step_reads : FnScope N_Step_reads ["self"] (defScope s_Step_reads) := ⟨rfl, rfl, rfl, by decide +kernel, rfl, by decide +kernel, by decide +kernel⟩
def b_Step_reads : SS := (kRet (sL gList (aC (s1 (gFld 0 3) (sV 0)) aN)))
def m_Step_reads : Mir := mir 1 b_Step_reads
abbrev N_law_fields : List Str := ["_law_step"]
abbrev s_law_fields : Stmt := top 16
theorem sc_law_fields : FnScope N_law_fields ["_law_step"] (defScope s_law_fields) := ⟨rfl, rfl, rfl, by decide +kernel, rfl, by decide +kernel, by decide +kernel⟩
def b_law_fields : SS := (kRet (sL gTup (aC (sMt1 0 m_Step_name (sV 0)) (aC (sMt1 0 m_Step_period (sV 0)) (aC (sMt1 0 m_Step_delay (sV 0)) (aC (sMt1 0 m_Step_reads (sV 0)) aN))))))
def m_law_fields : Mir := mir 1 b_law_fields
abbrev N_Step_eq : List Str := ["self", "other", "mine", "one"]
abbrev s_Step_eq : Stmt := inClass (top 9) 5
theorem sc_Step_eq : FnScope N_Step_eq ["self", "other"] (defScope s_Step_eq) := ⟨rfl, rfl, rfl, by decide +kernel, rfl, by decide +kernel, by decide +kernel⟩
def b_Step_eq : SS := (kS (kIf (bNot (sB (s1 (gIsCX 0) (sV 1))))
    (kRet (sK (.bl false))) kN)
    (kS (kSet 2 (sL gTup (aC (s1 (gFld 0 0) (sV 0)) (aC (s1 (gFld 0 1) (sV 0)) (aC (s1 (gFld 0 2) (sV 0)) (aC (sL gSortS (aC (sComp (iTupl (s1 (gFld 0 3) (sV 0))) (.nm 3) bYes (sL gStr (aC (sV 3) aN))) aN)) aN))))))
    (kRet (s2 gEq (sV 2) (sL gTup (aC (s1 (gFld 0 0) (sV 1)) (aC (s1 (gFld 0 1) (sV 1)) (aC (s1 (gFld 0 2) (sV 1)) (aC (sL gSortS (aC (sComp (iTupl (s1 (gFld 0 3) (sV 1))) (.nm 3) bYes (sL gStr (aC (sV 3) aN))) aN)) aN)))))))))
def m_Step_eq : Mir := mir 4 b_Step_eq
abbrev N_law_odd : List Str := ["_law_name", "_law_period", "_law_delay", "_law_reads", "_law_names_here", "_law_found", "_law_wrong", "_law_odd_here"]
abbrev s_law_odd : Stmt := top 17
theorem sc_law_odd : FnScope N_law_odd ["_law_name", "_law_period", "_law_delay", "_law_reads"] (defScope s_law_odd) := ⟨rfl, rfl, rfl, by decide +kernel, rfl, by decide +kernel, by decide +kernel⟩
def b_law_odd : SS := (kS (kSet 4 (sL gLst (aC (sK .non) (aC (sK (.str "")) (aC (sK (.str "A")) (aC (sK (.str "a1")) (aC (sK (.str "abcdefghi")) (aC (sK (.int 0)) (aC (sL gLst (aC (sK (.str "a")) aN)) (aC (sL gTup (aC (sK (.str "a")) aN)) (aC (sK (.str "a b")) (aC (sK (.bl true)) (aC (sK (.str "a\n")) aN)))))))))))))
    (kS (kSet 5 (sComp (iSeq (sV 4)) (.nm 7) bYes (sL gTup (aC (sV 7) (aC (sV 1) (aC (sV 2) (aC (sL gListS (aC (sV 3) aN)) aN)))))))
    (kS (kSet 5 (s2 gAdd (sV 5) (sComp (iSeq (sL gLst (aC (sK (.int 0)) (aC (s2 gSub (sK (.int 0)) (sK (.int 1))) (aC (sK .non) (aC (sK (.bl true)) (aC (sK (.str "1")) (aC (sL gLst (aC (sK (.int 1)) aN)) (aC (sL gTup (aC (sK (.int 1)) aN)) aN))))))))) (.nm 7) bYes (sL gTup (aC (sV 0) (aC (sV 7) (aC (sV 2) (aC (sL gListS (aC (sV 3) aN)) aN))))))))
    (kS (kSet 5 (s2 gAdd (sV 5) (sComp (iSeq (sL gLst (aC (s2 gSub (sK (.int 0)) (sK (.int 1))) (aC (sK .non) (aC (sK (.bl true)) (aC (sK (.bl false)) (aC (sK (.str "0")) (aC (sL gLst (aC (sK (.int 0)) aN)) aN)))))))) (.nm 7) bYes (sL gTup (aC (sV 0) (aC (sV 1) (aC (sV 7) (aC (sL gListS (aC (sV 3) aN)) aN))))))))
    (kS (kSet 6 (sL gLst (aC (sK .non) (aC (sL gTupleS (aC (sV 3) aN)) (aC (sK (.str "ab")) (aC (sK (.dct false [] [])) (aC (sK (.int 0)) (aC (sL gLst (aC (sK .non) aN)) (aC (sL gLst (aC (sK (.str "A")) aN)) (aC (s2 gAddS (sV 3) (sL gLst (aC (sK (.str "x")) (aC (sK (.str "x")) aN)))) (aC (sL gLst (aC (sK (.str "a")) (aC (sK (.str "b")) (aC (sK (.str "a")) aN)))) (aC (sL gLst (aC (sL gLst (aC (sK (.str "a")) aN)) aN)) (aC (sL gLst (aC (sV 0) (aC (sK (.int 1)) aN))) aN)))))))))))))
    (kRet (s2 gAdd (sV 5) (sComp (iSeq (sV 6)) (.nm 7) bYes (sL gTup (aC (sV 0) (aC (sV 1) (aC (sV 2) (aC (sV 7) aN)))))))))))))
def m_law_odd : Mir := mir 8 b_law_odd
def bx_Step_init : SX := (xS (xIf (bOr (bNot (sB (sCall 1 m_is_name (aC (sU (sV 1)) aN)))) (bOr (bNot (sB (sCall 1 m_is_whole (aC (sU (sV 2)) aN)))) (bOr (bNot (sB (sCall 1 m_is_whole (aC (sU (sV 3)) aN)))) (bNot (sB (sCall 1 m_are_names (aC (sU (sV 4)) aN)))))))
    (xRaise 1 (sL gTup (aC (sV 1) (aC (sV 2) (aC (sV 3) (aC (sV 4) aN)))))) xN)
    (xS (xIf (bOr (sB (s2 gLt (sU (sV 2)) (sK (.int 1)))) (sB (s2 gLt (sU (sV 3)) (sK (.int 0)))))
    (xRaise 1 (sL gTup (aC (sV 1) (aC (sV 2) (aC (sV 3) (aC (sV 4) aN)))))) xN)
    (xS (xGo (kSelf 0 0 (sU (sV 1))))
    (xS (xGo (kSelf 0 1 (sU (sV 2))))
    (xS (xGo (kSelf 0 2 (sU (sV 3))))
    (xGo (kSelf 0 3 (sL gTuple (aC (sU (sV 4)) aN)))))))))
def mx_Step_init : MirX := mirX 5 bx_Step_init
abbrev N_law_refused : List Str := ["_law_name", "_law_period", "_law_delay", "_law_reads", "_law_caught", "error", "_law_due"]
abbrev s_law_refused : Stmt := top 15
theorem sc_law_refused : FnScope N_law_refused ["_law_name", "_law_period", "_law_delay", "_law_reads"] (defScope s_law_refused) := ⟨rfl, rfl, rfl, by decide +kernel, rfl, by decide +kernel, by decide +kernel⟩
def law_refused_hb_1 : SE := (sK .non)
def law_refused_hb_2 : SS := (xTry 5 4 ct_InvalidStep (sMakeX 0 4 5 mx_Step_init (aC (sV 0) (aC (sV 1) (aC (sV 2) (aC (sV 3) aN))))))
def law_refused_hb_3 : SE := (sL (gShow oNo) (aC (sL gTup (aC (sU (sV 0)) (aC (sU (sV 1)) (aC (sU (sV 2)) (aC (sU (sV 3)) aN))))) aN))
def law_refused_hb_4 : SB := (bOr (sB (s1 gIsN (sU (sV 4)))) (bOr (bNot (sB (s1 (gIsTy2 4) (sU (s1 (gExV xvs) (sU (sV 4))))))) (sB (s2 gNe (sL (gShow oNo) (aC (sU (s1 (gExV xvs) (sU (sV 4)))) aN)) (sU (sV 6))))))
def law_refused_hb_5 : SS := (kRet (sK (.bl false)))
def law_refused_hb_6 : SB := (sB (s1 (gIsTy2 3) (sU (sV 3))))
def law_refused_hb_7 : SE := (s2 gEq (sL (gShow oNo) (aC (sU (s1 (gExV xvs) (sU (sV 4)))) aN)) (sL (gShow oNo) (aC (sL gTup (aC (sU (sV 0)) (aC (sU (sV 1)) (aC (sU (sV 2)) (aC (sU (sV 3)) aN))))) aN)))
abbrev law_refused_T (G : Gx) : TS :=
  (tSeq (tAsg (vtQ G law_refused_hb_1) (gName 4))
  (tSeq (vsQ G law_refused_hb_2)
  (tSeq (tAsg (vtQ G law_refused_hb_3) (gName 6))
  (tSeq (tIfS (vbQ G law_refused_hb_4) (vsQ G law_refused_hb_5) tNext)
  (tSeq (tIfS (vbQ G law_refused_hb_6) (tAppR 3 "more") tNext)
  (tRet (vtQ G law_refused_hb_7)))))))
abbrev N_law_right : List Str := ["_law_purse_here", "_law_names_here", "_law_name", "_law_period", "_law_delay", "_law_given", "_law_one", "_law_kept", "_law_made", "_law_due", "_law_others", "_law_other", "_law_same", "_law_its"]
abbrev s_law_right : Stmt := top 18
theorem sc_law_right : FnScope N_law_right ["_law_purse_here"] (defScope s_law_right) := ⟨rfl, rfl, rfl, by decide +kernel, rfl, by decide +kernel, by decide +kernel⟩
def law_right_hb_1 : SS := (kSet 1 (sCallM 2 m_law_names 0 (aC (sK (.int 4)) aN)))
def law_right_hb_2 : SS := (kPar [2, 3, 4] (aC (s2 gIx (sV 1) (sK (.int 0))) (aC (s2 gAdd (sK (.int 1)) (sCallM 2 m_law_draw 0 (aC (sK (.int 60)) aN))) (aC (sCallM 2 m_law_pick 0 (aC (sL gLst (aC (sK (.int 0)) (aC (sK (.int 7)) (aC (sK (.int 1000)) aN)))) aN)) aN))))
def law_right_hb_3 : SS := (kOwnLc 5 (sComp (iSeq (sV 1)) (.nm 6) (sB (s2 gEq (sCallM 2 m_law_draw 0 (aC (sK (.int 2)) aN)) (sK (.int 0)))) (sV 6)))
def law_right_hb_4 : SS := (kSet 7 (sLsM 5))
def law_right_hb_5 : SA := (aC (sMake 0 4 5 m_Step_init (aC (sV 2) (aC (sV 3) (aC (sV 4) (aC (sV 5) aN))))) (aC (sL gTup (aC (sV 2) (aC (sV 3) (aC (sV 4) (aC (sV 7) aN))))) aN))
def law_right_hb_6 : SB := (bOr (sB (s2 gNe (sV 5) (sV 7))) (sB (s2 gNe (sL (gShow oNo) (aC (sCall 1 m_law_fields (aC (sV 8) aN)) aN)) (sL (gShow oNo) (aC (sV 9) aN)))))
def law_right_hb_7 : SS := (kRet (sK (.bl false)))
def law_right_hb_8 : SE := (sMt1 0 m_Step_reads (sV 8))
def law_right_hb_9 : SB := (sB (s2 gNe (sCall 1 m_law_fields (aC (sV 8) aN)) (sV 9)))
def law_right_hb_10 : SS := (kRet (sK (.bl false)))
def law_right_hb_11 : SS := (kOwn 10 (aC (sV 9) (aC (sL gTup (aC (sV 2) (aC (sV 3) (aC (sV 4) (aC (s1 gRev (sV 7)) aN))))) (aC (sL gTup (aC (s2 gIx (sV 1) (sK (.int 1))) (aC (sV 3) (aC (sV 4) (aC (sV 7) aN))))) (aC (sL gTup (aC (sV 2) (aC (s2 gAdd (sV 3) (sK (.int 1))) (aC (sV 4) (aC (sV 7) aN))))) aN)))))
def law_right_hb_12 : SS := (kOwnAdd 10 (sV 10) (sL gLst (aC (sL gTup (aC (sV 2) (aC (sV 3) (aC (s2 gAdd (sV 4) (sK (.int 1))) (aC (sV 7) aN))))) (aC (sL gTup (aC (sV 2) (aC (sV 3) (aC (sV 4) (aC (sSl (sV 7) (oS (sK (.int 1))) oN) aN))))) aN))))
def law_right_hb_13 : SS := (kApp 10 (sL gTup (aC (sV 2) (aC (sV 3) (aC (sV 4) (aC (s2 gAdd (sV 7) (sL gLst (aC (sK (.str "unlike")) aN))) aN))))))
def law_right_hb_14 : SS := (kSet 11 (sCallM 2 m_law_pick 0 (aC (sV 10) aN)))
def law_right_hb_15 : SE := (s2 gEq (sSl (sV 11) oN (oS (sK (.int 3)))) (sSl (sV 9) oN (oS (sK (.int 3)))))
def law_right_hb_16 : SB := (sB (s2 gNe (sL gSortS (aC (sComp (iSeq (s2 gIx (sV 11) (sK (.int 3)))) (.nm 6) bYes (sL gStr (aC (sV 6) aN))) aN)) (sL gSortS (aC (sComp (iSeq (sV 7)) (.nm 6) bYes (sL gStr (aC (sV 6) aN))) aN))))
def law_right_hb_17 : SE := (sK (.bl false))
def law_right_hb_18 : SE := (sMake 0 4 5 m_Step_init (aC (s2 gIx (sV 11) (sK (.int 0))) (aC (s2 gIx (sV 11) (sK (.int 1))) (aC (s2 gIx (sV 11) (sK (.int 2))) (aC (sL gList (aC (s2 gIx (sV 11) (sK (.int 3))) aN)) aN)))))
def law_right_hb_19 : SB := (bOr (sB (s2 gNe (sMt2 0 m_Step_eq (sV 8) (sV 13)) (sV 12))) (bOr (sB (s2 gEq (sNeO 0 m_Step_eq (sV 8) (sV 13)) (sV 12))) (bOr (sB (sMtA 0 m_Step_eq (sV 8) (sV 9))) (sB (sMtA 0 m_Step_eq (sV 8) (sK .non))))))
def law_right_hb_20 : SS := (kRet (sK (.bl false)))
def law_right_hb_21 : SE := (sCall 4 m_law_odd (aC (sV 2) (aC (sV 3) (aC (sV 4) (aC (sV 7) aN)))))
def law_right_hb_22 : SA := (aC (s2 gIx (sV 6) (sK (.int 0))) (aC (s2 gIx (sV 6) (sK (.int 1))) (aC (s2 gIx (sV 6) (sK (.int 2))) (aC (s2 gIx (sV 6) (sK (.int 3))) aN))))
def law_right_hb_23 : SS := (kRet (sK (.bl false)))
def law_right_hb_24 : SE := (s2 gEq (sCall 1 m_law_fields (aC (sV 8) aN)) (sV 9))
abbrev law_right_T (G : Gx) (sp_law_refused : Sp) : TS :=
  (tSeq (vsQ G law_right_hb_1)
  (tSeq (vsQ G law_right_hb_2)
  (tSeq (vsQ G law_right_hb_3)
  (tSeq (vsQ G law_right_hb_4)
  (tSeq (tPar 8 9 (vaQ G law_right_hb_5))
  (tSeq (tIfS (vbQ G law_right_hb_6) (vsQ G law_right_hb_7) tNext)
  (tSeq (tAppR 5 "x")
  (tSeq (tAppS (vtQ G law_right_hb_8) "y")
  (tSeq (tIfS (vbQ G law_right_hb_9) (vsQ G law_right_hb_10) tNext)
  (tSeq (vsQ G law_right_hb_11)
  (tSeq (vsQ G law_right_hb_12)
  (tSeq (vsQ G law_right_hb_13)
  (tSeq (vsQ G law_right_hb_14)
  (tSeq (tAsg (vtQ G law_right_hb_15) (gName 12))
  (tSeq (tIfS (vbQ G law_right_hb_16) (tAsg (vtQ G law_right_hb_17) (gName 12)) tNext)
  (tSeq (tAsg (vtQ G law_right_hb_18) (gName 13))
  (tSeq (tIfS (vbQ G law_right_hb_19) (vsQ G law_right_hb_20) tNext)
  (tSeq (tFor (iList G.K (tLockE (vtQ G law_right_hb_21))) (gName 6) (tIfS (fun σ H Q => tCall sp_law_refused [] E0 (vaQ G law_right_hb_22) σ H fun x H1 => ∃ b, x = V.bl b ∧ Q (!b) H1) (vsQ G law_right_hb_23) tNext))
  (tRet (vtQ G law_right_hb_24))))))))))))))))))))
abbrev N_law : List Str := ["_law_script", "_law_turn"]
abbrev s_law : Stmt := top 19
theorem sc_law : FnScope N_law ["_law_script"] (defScope s_law) := ⟨rfl, rfl, rfl, by decide +kernel, rfl, by decide +kernel, by decide +kernel⟩
def hb_1 : SI := (iR (aC (sK (.int 6)) aN))
def hb_2 : SA := (aC (sV 0) (aC (sV 1) aN))
def hb_3 : SS := (kRet (sK (.bl false)))
def hb_4 : SS := (kRet (sK (.bl true)))
abbrev lawT (G : Gx) (sp_law_right : Sp) : TS :=
  (tSeq (tForQ G hb_1 (.nm 1)
  (tIfS (fun σ H Q => tCall sp_law_right [] E0 (tCons (tCall (spM G 2 m_law_purse) [] E0 (vaQ G hb_2)) tNil) σ H fun x H1 => ∃ b, x = V.bl b ∧ Q (!b) H1) (vsQ G hb_3) tNext))
  (vsQ G hb_4))
def LawOk (G : Gx) (sp_law_right : Sp) : Prop := ∀ (us : List V) (H : Hp) (Q : VK) (E : XK), spLaw G us H Q E → lawT G sp_law_right { nx := fun _ H1 => Q .non H1, rt := Q } (L2.start N_law us) H
abbrev s_InvalidStep_init : Stmt := inClass (top 2) 0
theorem sb_InvalidStep : SupShape s_InvalidStep_init := ⟨⟨_, _, _, _, _, _, _, _, _, _, rfl, by decide +kernel⟩, ⟨_, rfl, rfl⟩, by decide +kernel, by decide +kernel, by decide +kernel, by decide +kernel, by decide +kernel, rfl, rfl, rfl⟩
theorem kp_InvalidStep (a v : Value) : SupBinds s_InvalidStep_init "InvalidStep.__init__" ⟨[a, v], []⟩ [("self", a), ("value", v)] := fun T cc kV doc pm ct cdv an => ⟨_, rfl, rfl⟩
theorem kk_InvalidStep (a v : Value) : SupBinds s_InvalidStep_init "InvalidStep.__init__" ⟨[a], [("value", v)]⟩ [("self", a), ("value", v)] := fun T cc kV doc pm ct cdv an => ⟨_, rfl, rfl⟩
theorem kn_InvalidStep (a : Value) : SupBinds s_InvalidStep_init "InvalidStep.__init__" ⟨[a], []⟩ [("self", a), ("value", .none)] := fun T cc kV doc pm ct cdv an => ⟨_, rfl, rfl⟩
section
variable {G : Gx}
theorem ok_law_purse (T : Txt G G.mg) {f : Addr} {fd : FuncData} (F : Fun G.K "_law_purse" "_law_purse" s_law_purse f fd)  : FnOk G.P G.w G.K G.mg G.base CX0 1 f fd ["_law_script", "_law_at"] (spM G 2 m_law_purse) :=
  fn_okM F sc_law_purse fun c cdv A outer sh H E hG hr => by
    subst hG
    exact (vs_cons (vs_set (i := 2) sc_law_purse.nd ve_int)
    (vs_cons (vs_if (vt_cmp od_lt (ve_var (pv 1)) (ve_callB (ca_len rfl) T.n_len bt_len (va_cons (ve_var (pv 0)) va_nil)))
    (vs_one (vs_set (i := 2) sc_law_purse.nd (ve_ix rfl (ve_var (pv 0)) (ve_var (pv 1))))) vs_nil)
    (vs_one (vs_retL (va_cons (ve_op od_mod (ve_callT ca_int T.n_int bt_int (va_cons (ve_callB (ca_max rfl) T.n_max bt_max (va_cons (ve_op od_sub (ve_var (pv 2)) (ve_op od_pow ve_int ve_int)) (va_cons ve_int va_nil))) va_nil)) (ve_op od_pow (ve_op od_pow ve_int ve_int) ve_int)) (va_cons (ve_op od_mod (ve_callT ca_int T.n_int bt_int (va_cons (ve_var (pv 2)) va_nil)) ve_int) (va_cons ve_int va_nil)))))))
theorem ok_law_draw (T : Txt G G.mg) {f : Addr} {fd : FuncData} (F : Fun G.K "_law_draw" "_law_draw" s_law_draw f fd)  : FnOk G.P G.w G.K G.mg G.base CX0 1 f fd ["_law_purse_here", "_law_many"] (spV G 2 m_law_draw) :=
  fn_ok F sc_law_draw fun c cdv A outer sh H E hG hr => by
    subst hG
    exact (vs_cons (vs_if (vt_cmp od_gt (ve_ixM (pv 0) ve_int) ve_int)
    (vs_cons (vs_set (i := 2) sc_law_draw.nd (ve_op od_mod (ve_callT ca_int T.n_int bt_int (va_cons (ve_ixM (pv 0) ve_int) va_nil)) (ve_var (pv 1))))
    (vs_cons (vs_put (pv 0) ve_int (ve_op od_fdiv (ve_ixM (pv 0) ve_int) (ve_var (pv 1))))
    (vs_one (vs_ret (ve_var (pv 2)))))) vs_nil)
    (vs_cons (vs_set (i := 3) sc_law_draw.nd (ve_op od_add (ve_ixM (pv 0) ve_int) ve_int))
    (vs_cons (vs_put (pv 0) ve_int (ve_var (pv 3)))
    (vs_cons (vs_set (i := 4) sc_law_draw.nd (ve_op od_mod (ve_callT ca_int T.n_int bt_int (va_cons (ve_op od_mul (ve_op od_add (ve_ixM (pv 0) ve_int) (ve_op od_mul ve_int (ve_var (pv 3)))) (ve_op od_add (ve_op od_mul (ve_var (pv 3)) (ve_var (pv 3))) ve_int)) va_nil)) ve_int))
    (vs_cons (vs_set (i := 4) sc_law_draw.nd (ve_op od_mod (ve_callT ca_int T.n_int bt_int (va_cons (ve_op od_add (ve_op od_mul (ve_var (pv 4)) (ve_var (pv 4))) (ve_var (pv 3))) va_nil)) ve_int))
    (vs_one (vs_ret (ve_op od_mod (ve_op od_fdiv (ve_op od_mod (ve_callT ca_int T.n_int bt_int (va_cons (ve_op od_mul (ve_var (pv 4)) ve_int) va_nil)) ve_int) ve_int) (ve_var (pv 1))))))))))
theorem ok_law_pick (T : Txt G G.mg) {f : Addr} {fd : FuncData} (F : Fun G.K "_law_pick" "_law_pick" s_law_pick f fd) (C__law_draw : Cal G.P G.w G G.mg G.base "_law_draw" 1 2 m_law_draw) : FnOk G.P G.w G.K G.mg G.base CX0 2 f fd ["_law_purse_here", "_law_items"] (spV G 2 m_law_pick) :=
  fn_ok F sc_law_pick fun c cdv A outer sh H E hG hr => by
    subst hG
    exact (vs_one (vs_ret (ve_ix rfl (ve_var (pv 1)) (ve_callM C__law_draw rfl (hr.mono (by decide)) (pv 0) (va_cons (ve_callB (ca_len rfl) T.n_len bt_len (va_cons (ve_var (pv 1)) va_nil)) va_nil)))))
theorem ok_law_names (T : Txt G G.mg) {f : Addr} {fd : FuncData} (F : Fun G.K "_law_names" "_law_names" s_law_names f fd) (C__law_draw : Cal G.P G.w G G.mg G.base "_law_draw" 1 2 m_law_draw) (C__law_pick : Cal G.P G.w G G.mg G.base "_law_pick" 2 2 m_law_pick) : FnOk G.P G.w G.K G.mg G.base CX0 3 f fd ["_law_purse_here", "_law_many"] (spV G 2 m_law_names) :=
  fn_ok F sc_law_names fun c cdv A outer sh H E hG hr => by
    subst hG
    exact (vs_cons (vs_tup [2, 3] (ve_tup (va_cons (ve_callM C__law_draw rfl (hr.mono (by decide)) (pv 0) (va_cons ve_int va_nil)) (va_cons (ve_callM C__law_pick rfl (hr.mono (by decide)) (pv 0) (va_cons (ve_lst (va_cons ve_str (va_cons ve_str (va_cons ve_str (va_cons ve_str (va_cons ve_str (va_cons ve_str va_nil))))))) va_nil)) va_nil))) (pg_tup rfl (pgs_cons (pg_name (i := 2) sc_law_names.nd rfl (Or.inr rfl)) (pgs_cons (pg_name (i := 3) sc_law_names.nd rfl (Or.inr rfl)) pgs_nil))))
    (vs_cons (vs_set (i := 4) sc_law_names.nd ve_str)
    (vs_one (vs_ret (ve_lc (own := [("_law_at", 5)]) (.nm 5) rfl sc_law_names.nd (vi_range1 T.n_range (va_cons (ve_var (pv 1)) va_nil)) (blkOk_by (N := N_law_names) (sc := defScope s_law_names) (by decide +kernel)) rfl (fun _ _ _ _ _ => (pg_name (i := 5) sc_law_names.nd rfl (Or.inl rfl))) (fun _ _ _ _ _ _ _ _ => vts_nil) (fun _ _ _ _ _ _ _ _ => (ve_op od_add (ve_var (pv 3)) (ve_ix rfl (ve_var (pv 4)) (ve_op od_sub (ve_op od_add (ve_var (pv 2)) (ve_op od_mul ve_int (ve_var (pv 5)))) (ve_op od_mul (ve_op od_fdiv (ve_op od_add (ve_var (pv 2)) (ve_op od_mul ve_int (ve_var (pv 5)))) ve_int) ve_int))))))))))
theorem ok_is_name (T : Txt G G.mg) {f : Addr} {fd : FuncData} (F : Fun G.K "is_name" "is_name" s_is_name f fd)  : FnOk G.P G.w G.K G.mg G.base CX0 1 f fd ["value"] (spV G 1 m_is_name) :=
  fn_ok F sc_is_name fun c cdv A outer sh H E hG hr => by
    subst hG
    exact (vs_cons (vs_if (PW.pt (vw_or (vt_not (vt_val (ve_isTy2 2 (by decide) T.n_isinstance (ve_var (pv 0)) T.n_str bt_ty2))) (pw_or1 (vt_not (vt_chain od_le od_le ve_int (ve_callB (ca_len rfl) T.n_len bt_len (va_cons (ve_var (pv 0)) va_nil)) ve_int)))))
    (vs_one (vs_ret ve_bl)) vs_nil)
    (vs_one (vs_ret (ve_cmp (od_eqL hr.units) (ve_lc (own := [("letter", 1)]) (.nm 1) rfl sc_is_name.nd (vi_str (ve_var (pv 0))) (blkOk_by (N := N_is_name) (sc := defScope s_is_name) (by decide +kernel)) rfl (fun _ _ _ _ _ => (pg_name (i := 1) sc_is_name.nd rfl (Or.inl rfl))) (fun _ _ _ _ _ _ _ _ => (vts_one (vt_cmp od_notin (ve_var (pv 1)) (ve_glob T.g_LETTERS)))) (fun _ _ _ _ _ _ _ _ => (ve_var (pv 1)))) (ve_lst va_nil)))))
theorem ok_is_whole (T : Txt G G.mg) {f : Addr} {fd : FuncData} (F : Fun G.K "is_whole" "is_whole" s_is_whole f fd)  : FnOk G.P G.w G.K G.mg G.base CX0 1 f fd ["value"] (spV G 1 m_is_whole) :=
  fn_ok F sc_is_whole fun c cdv A outer sh H E hG hr => by
    subst hG
    exact (vs_one (vs_ret (ve_and (ve_isTy2 1 (by decide) T.n_isinstance (ve_var (pv 0)) T.n_int bt_ty1) (ve_one (ve_not (ve_isTy2 0 (by decide) T.n_isinstance (ve_var (pv 0)) T.n_bool bt_ty0))))))
theorem ok_are_names (T : Txt G G.mg) {f : Addr} {fd : FuncData} (F : Fun G.K "are_names" "are_names" s_are_names f fd) (C_is_name : Cal G.P G.w G G.mg G.base "is_name" 1 1 m_is_name) : FnOk G.P G.w G.K G.mg G.base CX0 2 f fd ["value"] (spV G 1 m_are_names) :=
  fn_ok F sc_are_names fun c cdv A outer sh H E hG hr => by
    subst hG
    exact (vs_cons (vs_if (PW.pt (vw_or (vt_not (vt_val (ve_isTy2 3 (by decide) T.n_isinstance (ve_var (pv 0)) T.n_list bt_ty3))) (pw_or1 (vt_cmp (od_ne hr.units) (ve_lc (own := [("one", 1)]) (.nm 1) rfl sc_are_names.nd (vi_list (ve_var (pv 0))) (blkOk_by (N := N_are_names) (sc := defScope s_are_names) (by decide +kernel)) rfl (fun _ _ _ _ _ => (pg_name (i := 1) sc_are_names.nd rfl (Or.inl rfl))) (fun _ _ _ _ _ _ _ _ => (vts_one (vt_not (vt_val (ve_call C_is_name rfl (hr.mono (by decide)) (va_cons (ve_var (pv 1)) va_nil)))))) (fun _ _ _ _ _ _ _ _ => (ve_var (pv 1)))) (ve_lst va_nil)))))
    (vs_one (vs_ret ve_bl)) vs_nil)
    (vs_one (vs_ret (ve_cmp (od_eq hr.units) (ve_lenSet rfl T.n_len T.n_set (ve_var (pv 0))) (ve_callB (ca_len rfl) T.n_len bt_len (va_cons (ve_var (pv 0)) va_nil))))))
theorem ok_Step_init (T : Txt G G.mg) {f : Addr} {fd : FuncData} (F : Fun G.K "__init__" "Step.__init__" s_Step_init f fd) (C_is_name : Cal G.P G.w G G.mg G.base "is_name" 1 1 m_is_name) (C_is_whole : Cal G.P G.w G G.mg G.base "is_whole" 1 1 m_is_whole) (C_are_names : Cal G.P G.w G G.mg G.base "are_names" 2 1 m_are_names) : FnOk G.P G.w G.K G.mg G.base CX0 3 f fd ["self", "name", "period", "delay", "reads"] (spV G 5 m_Step_init) :=
  fn_ok F sc_Step_init fun c cdv A outer sh H E hG hr => by
    subst hG
    exact (vs_cons (vs_if (PW.pt (vw_or (vt_not (vt_val (ve_call C_is_name rfl (hr.mono (by decide)) (va_cons (ve_var (pv 1)) va_nil)))) (vw_or (vt_not (vt_val (ve_call C_is_whole rfl (hr.mono (by decide)) (va_cons (ve_var (pv 2)) va_nil)))) (vw_or (vt_not (vt_val (ve_call C_is_whole rfl (hr.mono (by decide)) (va_cons (ve_var (pv 3)) va_nil)))) (pw_or1 (vt_not (vt_val (ve_call C_are_names rfl (hr.mono (by decide)) (va_cons (ve_var (pv 4)) va_nil)))))))))
    (vs_one vs_never) vs_nil)
    (vs_cons (vs_if (PW.pt (vw_or (vt_cmp od_lt (ve_var (pv 2)) ve_int) (pw_or1 (vt_cmp od_lt (ve_var (pv 3)) ve_int))))
    (vs_one vs_never) vs_nil)
    (vs_cons (vs_self 0 0 (pv 0) (ve_var (pv 1)) T.c0.cl T.a0_label T.l0_label)
    (vs_cons (vs_self 0 1 (pv 0) (ve_var (pv 2)) T.c0.cl T.a0_turn T.l0_turn)
    (vs_cons (vs_self 0 2 (pv 0) (ve_var (pv 3)) T.c0.cl T.a0_lag T.l0_lag)
    (vs_one (vs_self 0 3 (pv 0) (ve_callT ca_tuple T.n_tuple bt_tuple (va_cons (ve_var (pv 4)) va_nil)) T.c0.cl T.a0_sources T.l0_sources)))))))
theorem ok_Step_name (T : Txt G G.mg) {f : Addr} {fd : FuncData} (F : Fun G.K "name" "Step.name" s_Step_name f fd)  : FnOk G.P G.w G.K G.mg G.base CX0 1 f fd ["self"] (spV G 1 m_Step_name) :=
  fn_ok F sc_Step_name fun c cdv A outer sh H E hG hr => by
    subst hG
    exact (vs_one (vs_ret (ve_fld 0 0 (ve_var (pv 0)) T.c0.cl T.a0_label T.l0_label)))
theorem ok_Step_period (T : Txt G G.mg) {f : Addr} {fd : FuncData} (F : Fun G.K "period" "Step.period" s_Step_period f fd)  : FnOk G.P G.w G.K G.mg G.base CX0 1 f fd ["self"] (spV G 1 m_Step_period) :=
  fn_ok F sc_Step_period fun c cdv A outer sh H E hG hr => by
    subst hG
    exact (vs_one (vs_ret (ve_fld 0 1 (ve_var (pv 0)) T.c0.cl T.a0_turn T.l0_turn)))
theorem ok_Step_delay (T : Txt G G.mg) {f : Addr} {fd : FuncData} (F : Fun G.K "delay" "Step.delay" s_Step_delay f fd)  : FnOk G.P G.w G.K G.mg G.base CX0 1 f fd ["self"] (spV G 1 m_Step_delay) :=
  fn_ok F sc_Step_delay fun c cdv A outer sh H E hG hr => by
    subst hG
    exact (vs_one (vs_ret (ve_fld 0 2 (ve_var (pv 0)) T.c0.cl T.a0_lag T.l0_lag)))
theorem ok_Step_reads (T : Txt G G.mg) {f : Addr} {fd : FuncData} (F : Fun G.K "reads" "Step.reads" s_Step_reads f fd)  : FnOk G.P G.w G.K G.mg G.base CX0 1 f fd ["self"] (spV G 1 m_Step_reads) :=
  fn_ok F sc_Step_reads fun c cdv A outer sh H E hG hr => by
    subst hG
    exact (vs_one (vs_ret (ve_callT ca_list T.n_list bt_list (va_cons (ve_fld 0 3 (ve_var (pv 0)) T.c0.cl T.a0_sources T.l0_sources) va_nil))))
theorem ok_law_fields (T : Txt G G.mg) {f : Addr} {fd : FuncData} (F : Fun G.K "_law_fields" "_law_fields" s_law_fields f fd) (C_Step_name : CalP G.P G.w G G.mg G.base 0 "name" 1 m_Step_name) (C_Step_period : CalP G.P G.w G G.mg G.base 0 "period" 1 m_Step_period) (C_Step_delay : CalP G.P G.w G G.mg G.base 0 "delay" 1 m_Step_delay) (C_Step_reads : CalP G.P G.w G G.mg G.base 0 "reads" 1 m_Step_reads) : FnOk G.P G.w G.K G.mg G.base CX0 3 f fd ["_law_step"] (spV G 1 m_law_fields) :=
  fn_ok F sc_law_fields fun c cdv A outer sh H E hG hr => by
    subst hG
    exact (vs_one (vs_ret (ve_tup (va_cons (ve_prop C_Step_name rfl T.c0.cl (hr.mono (by decide)) (ve_var (pv 0))) (va_cons (ve_prop C_Step_period rfl T.c0.cl (hr.mono (by decide)) (ve_var (pv 0))) (va_cons (ve_prop C_Step_delay rfl T.c0.cl (hr.mono (by decide)) (ve_var (pv 0))) (va_cons (ve_prop C_Step_reads rfl T.c0.cl (hr.mono (by decide)) (ve_var (pv 0))) va_nil)))))))
theorem ok_Step_eq (T : Txt G G.mg) {f : Addr} {fd : FuncData} (F : Fun G.K "__eq__" "Step.__eq__" s_Step_eq f fd)  : FnOk G.P G.w G.K G.mg G.base CX0 1 f fd ["self", "other"] (spV G 2 m_Step_eq) :=
  fn_ok F sc_Step_eq fun c cdv A outer sh H E hG hr => by
    subst hG
    exact (vs_cons (vs_if (vt_not (vt_val (ve_isCX 0 T.n_isinstance (ve_var (pv 1)) T.g0 T.c0 T.nbi0)))
    (vs_one (vs_ret ve_bl)) vs_nil)
    (vs_cons (vs_set (i := 2) sc_Step_eq.nd (ve_tup (va_cons (ve_fld 0 0 (ve_var (pv 0)) T.c0.cl T.a0_label T.l0_label) (va_cons (ve_fld 0 1 (ve_var (pv 0)) T.c0.cl T.a0_turn T.l0_turn) (va_cons (ve_fld 0 2 (ve_var (pv 0)) T.c0.cl T.a0_lag T.l0_lag) (va_cons (ve_callB (ca_sortedS) T.n_sorted bt_sorted (va_cons (ve_lc (own := [("one", 3)]) (.nm 3) rfl sc_Step_eq.nd (vi_tup (ve_fld 0 3 (ve_var (pv 0)) T.c0.cl T.a0_sources T.l0_sources)) (blkOk_by (N := N_Step_eq) (sc := defScope s_Step_eq) (by decide +kernel)) rfl (fun _ _ _ _ _ => (pg_name (i := 3) sc_Step_eq.nd rfl (Or.inl rfl))) (fun _ _ _ _ _ _ _ _ => vts_nil) (fun _ _ _ _ _ _ _ _ => (ve_callT ca_str T.n_str bt_str (va_cons (ve_var (pv 3)) va_nil)))) va_nil)) va_nil))))))
    (vs_one (vs_ret (ve_cmp (od_eq hr.units) (ve_var (pv 2)) (ve_tup (va_cons (ve_fld 0 0 (ve_var (pv 1)) T.c0.cl T.a0_label T.l0_label) (va_cons (ve_fld 0 1 (ve_var (pv 1)) T.c0.cl T.a0_turn T.l0_turn) (va_cons (ve_fld 0 2 (ve_var (pv 1)) T.c0.cl T.a0_lag T.l0_lag) (va_cons (ve_callB (ca_sortedS) T.n_sorted bt_sorted (va_cons (ve_lc (own := [("one", 3)]) (.nm 3) rfl sc_Step_eq.nd (vi_tup (ve_fld 0 3 (ve_var (pv 1)) T.c0.cl T.a0_sources T.l0_sources)) (blkOk_by (N := N_Step_eq) (sc := defScope s_Step_eq) (by decide +kernel)) rfl (fun _ _ _ _ _ => (pg_name (i := 3) sc_Step_eq.nd rfl (Or.inl rfl))) (fun _ _ _ _ _ _ _ _ => vts_nil) (fun _ _ _ _ _ _ _ _ => (ve_callT ca_str T.n_str bt_str (va_cons (ve_var (pv 3)) va_nil)))) va_nil)) va_nil))))))))))
theorem ok_law_odd (T : Txt G G.mg) {f : Addr} {fd : FuncData} (F : Fun G.K "_law_odd" "_law_odd" s_law_odd f fd)  : FnOk G.P G.w G.K G.mg G.base CX0 1 f fd ["_law_name", "_law_period", "_law_delay", "_law_reads"] (spV G 4 m_law_odd) :=
  fn_ok F sc_law_odd fun c cdv A outer sh H E hG hr => by
    subst hG
    exact (vs_cons (vs_set (i := 4) sc_law_odd.nd (ve_lst (va_cons ve_non (va_cons ve_str (va_cons ve_str (va_cons ve_str (va_cons ve_str (va_cons ve_int (va_cons (ve_lst (va_cons ve_str va_nil)) (va_cons (ve_tup (va_cons ve_str va_nil)) (va_cons ve_str (va_cons ve_bl (va_cons ve_str va_nil)))))))))))))
    (vs_cons (vs_setLc (i := 5) (own := [("_law_odd_here", 7)]) (.nm 7) rfl sc_law_odd.nd (vi_list (ve_var (pv 4))) (blkOk_by (N := N_law_odd) (sc := defScope s_law_odd) (by decide +kernel)) rfl (fun _ _ _ _ _ => (pg_name (i := 7) sc_law_odd.nd rfl (Or.inl rfl))) (fun _ _ _ _ _ _ _ _ => vts_nil) (fun _ _ _ _ _ _ _ _ => (ve_tup (va_cons (ve_var (pv 7)) (va_cons (ve_var (pv 1)) (va_cons (ve_var (pv 2)) (va_cons (ve_callT (ca_listS rfl) T.n_list bt_list (va_cons (ve_var (pv 3)) va_nil)) va_nil)))))) (sw_true rfl rfl rfl (by decide +kernel)))
    (vs_cons (vs_set (i := 5) sc_law_odd.nd (ve_op od_add (ve_var (pv 5)) (ve_lc (own := [("_law_odd_here", 7)]) (.nm 7) rfl sc_law_odd.nd (vi_list (ve_lst (va_cons ve_int (va_cons (ve_op od_sub ve_int ve_int) (va_cons ve_non (va_cons ve_bl (va_cons ve_str (va_cons (ve_lst (va_cons ve_int va_nil)) (va_cons (ve_tup (va_cons ve_int va_nil)) va_nil))))))))) (blkOk_by (N := N_law_odd) (sc := defScope s_law_odd) (by decide +kernel)) rfl (fun _ _ _ _ _ => (pg_name (i := 7) sc_law_odd.nd rfl (Or.inl rfl))) (fun _ _ _ _ _ _ _ _ => vts_nil) (fun _ _ _ _ _ _ _ _ => (ve_tup (va_cons (ve_var (pv 0)) (va_cons (ve_var (pv 7)) (va_cons (ve_var (pv 2)) (va_cons (ve_callT (ca_listS rfl) T.n_list bt_list (va_cons (ve_var (pv 3)) va_nil)) va_nil)))))))))
    (vs_cons (vs_set (i := 5) sc_law_odd.nd (ve_op od_add (ve_var (pv 5)) (ve_lc (own := [("_law_odd_here", 7)]) (.nm 7) rfl sc_law_odd.nd (vi_list (ve_lst (va_cons (ve_op od_sub ve_int ve_int) (va_cons ve_non (va_cons ve_bl (va_cons ve_bl (va_cons ve_str (va_cons (ve_lst (va_cons ve_int va_nil)) va_nil)))))))) (blkOk_by (N := N_law_odd) (sc := defScope s_law_odd) (by decide +kernel)) rfl (fun _ _ _ _ _ => (pg_name (i := 7) sc_law_odd.nd rfl (Or.inl rfl))) (fun _ _ _ _ _ _ _ _ => vts_nil) (fun _ _ _ _ _ _ _ _ => (ve_tup (va_cons (ve_var (pv 0)) (va_cons (ve_var (pv 1)) (va_cons (ve_var (pv 7)) (va_cons (ve_callT (ca_listS rfl) T.n_list bt_list (va_cons (ve_var (pv 3)) va_nil)) va_nil)))))))))
    (vs_cons (vs_set (i := 6) sc_law_odd.nd (ve_lst (va_cons ve_non (va_cons (ve_callT (ca_tupleS rfl) T.n_tuple bt_tuple (va_cons (ve_var (pv 3)) va_nil)) (va_cons ve_str (va_cons ve_empD (va_cons ve_int (va_cons (ve_lst (va_cons ve_non va_nil)) (va_cons (ve_lst (va_cons ve_str va_nil)) (va_cons (ve_op (od_addS rfl) (ve_var (pv 3)) (ve_lst (va_cons ve_str (va_cons ve_str va_nil)))) (va_cons (ve_lst (va_cons ve_str (va_cons ve_str (va_cons ve_str va_nil)))) (va_cons (ve_lst (va_cons (ve_lst (va_cons ve_str va_nil)) va_nil)) (va_cons (ve_lst (va_cons (ve_var (pv 0)) (va_cons ve_int va_nil))) va_nil)))))))))))))
    (vs_one (vs_ret (ve_op od_add (ve_var (pv 5)) (ve_lc (own := [("_law_odd_here", 7)]) (.nm 7) rfl sc_law_odd.nd (vi_list (ve_var (pv 6))) (blkOk_by (N := N_law_odd) (sc := defScope s_law_odd) (by decide +kernel)) rfl (fun _ _ _ _ _ => (pg_name (i := 7) sc_law_odd.nd rfl (Or.inl rfl))) (fun _ _ _ _ _ _ _ _ => vts_nil) (fun _ _ _ _ _ _ _ _ => (ve_tup (va_cons (ve_var (pv 0)) (va_cons (ve_var (pv 1)) (va_cons (ve_var (pv 2)) (va_cons (ve_var (pv 7)) va_nil)))))))))))))))
theorem okx_Step_init (T : Txt G G.mg) {f : Addr} {fd : FuncData} (F : Fun G.K "__init__" "Step.__init__" s_Step_init f fd) (C_is_name : Cal G.P G.w G G.mg G.base "is_name" 1 1 m_is_name) (C_is_whole : Cal G.P G.w G G.mg G.base "is_whole" 1 1 m_is_whole) (C_are_names : Cal G.P G.w G G.mg G.base "are_names" 2 1 m_are_names) (CE_InvalidStep : CalE G.P G G.mg "InvalidStep" 1) : FnOk G.P G.w G.K G.mg G.base (L2.CX G.P G.w) 3 f fd ["self", "name", "period", "delay", "reads"] (spX G 5 mx_Step_init) :=
  fn_okX F sc_Step_init fun c cdv A outer sh H E W hG hr tk => by
    subst hG
    exact (x_cons (x_if (PW.pt (vw_or (vt_not (vt_val (ve_call C_is_name rfl (hr.mono (by decide)) (va_cons (ve_un (ve_var (pv 1))) va_nil)))) (vw_or (vt_not (vt_val (ve_call C_is_whole rfl (hr.mono (by decide)) (va_cons (ve_un (ve_var (pv 2))) va_nil)))) (vw_or (vt_not (vt_val (ve_call C_is_whole rfl (hr.mono (by decide)) (va_cons (ve_un (ve_var (pv 3))) va_nil)))) (pw_or1 (vt_not (vt_val (ve_call C_are_names rfl (hr.mono (by decide)) (va_cons (ve_un (ve_var (pv 4))) va_nil)))))))))
    (x_one (x_raise (lv := 0) CE_InvalidStep rfl tk rfl (hr.mono (by decide)) (ve_tup (va_cons (ve_var (pv 1)) (va_cons (ve_var (pv 2)) (va_cons (ve_var (pv 3)) (va_cons (ve_var (pv 4)) va_nil))))))) x_nil)
    (x_cons (x_if (PW.pt (vw_or (vt_cmp od_lt (ve_un (ve_var (pv 2))) ve_int) (pw_or1 (vt_cmp od_lt (ve_un (ve_var (pv 3))) ve_int))))
    (x_one (x_raise (lv := 0) CE_InvalidStep rfl tk rfl (hr.mono (by decide)) (ve_tup (va_cons (ve_var (pv 1)) (va_cons (ve_var (pv 2)) (va_cons (ve_var (pv 3)) (va_cons (ve_var (pv 4)) va_nil))))))) x_nil)
    (x_cons (x_go (vs_self 0 0 (pv 0) (ve_un (ve_var (pv 1))) T.c0.cl T.a0_label T.l0_label))
    (x_cons (x_go (vs_self 0 1 (pv 0) (ve_un (ve_var (pv 2))) T.c0.cl T.a0_turn T.l0_turn))
    (x_cons (x_go (vs_self 0 2 (pv 0) (ve_un (ve_var (pv 3))) T.c0.cl T.a0_lag T.l0_lag))
    (x_one (x_go (vs_self 0 3 (pv 0) (ve_callT ca_tuple T.n_tuple bt_tuple (va_cons (ve_un (ve_var (pv 4))) va_nil)) T.c0.cl T.a0_sources T.l0_sources))))))))
theorem ok_law_refused (T : Txt G G.mg) {f : Addr} {fd : FuncData} (F : Fun G.K "_law_refused" "_law_refused" s_law_refused f fd)  (CR_Step_init : CalCR G.P G.w G G.mg G.base "Step" 3 5 0 mx_Step_init) {spO : Sp} (len : ∀ us H Q E, spO us H Q E → us.length = 4) (hL : ∀ us H Q E, spO us H Q E → law_refused_T G { nx := fun _ H1 => Q .non H1, rt := Q } (L2.start N_law_refused us) H) : FnG G.P G.w G.K G.mg G.base 5 f fd ["_law_name", "_law_period", "_law_delay", "_law_reads"] spO :=
  fnG_of F sc_law_refused len fun cdv A outer sh H us Q E hgd hr h => ⟨law_refused_T G, (pss_cons (ps_set (i := 4) sc_law_refused.nd rfl (Or.inl rfl) (pe_x fun c hG => by
    subst hG
    exact ve_non))
  (pss_cons (ps_x fun c hG => by
    subst hG
    exact (v_tryE (i := 5) (j := 4) T.ct_InvalidStep sc_law_refused.nd rfl (by decide)
    (fun W ps xe tk => (e_make CR_Step_init T.nf0 rfl (hr.mono (by decide)) tk (va_cons (ve_var (pv 0)) (va_cons (ve_var (pv 1)) (va_cons (ve_var (pv 2)) (va_cons (ve_var (pv 3)) va_nil)))))) (fun a oe ps => ps_set (i := 4) sc_law_refused.nd rfl (Or.inl rfl) (pv 5))))
  (pss_cons (ps_set (i := 6) sc_law_refused.nd rfl (Or.inl rfl) (pe_x fun c hG => by
    subst hG
    exact (ve_callB (ca_show XShow.no hgd (hu100 hr)) T.n_repr bt_repr (va_cons (ve_tup (va_cons (ve_un (ve_var (pv 0))) (va_cons (ve_un (ve_var (pv 1))) (va_cons (ve_un (ve_var (pv 2))) (va_cons (ve_un (ve_var (pv 3))) va_nil))))) va_nil))))
  (pss_cons (ps_if (pt_x fun c hG => by
    subst hG
    exact (PW.pt (vw_or (vt_isN (ve_un (ve_var (pv 4)))) (vw_or (vt_not (vt_val (ve_isTy2 4 (by decide) T.n_isinstance (ve_un (ve_exF T.xv rfl (ve_un (ve_var (pv 4))))) T.n_tuple bt_ty4))) (pw_or1 (vt_cmp (od_ne hr.units) (ve_callB (ca_show XShow.no hgd (hu100 hr)) T.n_repr bt_repr (va_cons (ve_un (ve_exF T.xv rfl (ve_un (ve_var (pv 4))))) va_nil)) (ve_un (ve_var (pv 6))))))))) (pss_one (ps_x fun c hG => by
    subst hG
    exact (vs_ret ve_bl))) pss_nil)
  (pss_cons (ps_if (pt_x fun c hG => by
    subst hG
    exact (vt_val (ve_isTy2 3 (by decide) T.n_isinstance (ve_un (ve_var (pv 3))) T.n_list bt_ty3))) (pss_one (ps_appR (pv 3))) pss_nil)
  (pss_one (ps_ret (pe_x fun c hG => by
    subst hG
    exact (ve_cmp (od_eq hr.units) (ve_callB (ca_show XShow.no hgd (hu100 hr)) T.n_repr bt_repr (va_cons (ve_un (ve_exF T.xv rfl (ve_un (ve_var (pv 4))))) va_nil)) (ve_callB (ca_show XShow.no hgd (hu100 hr)) T.n_repr bt_repr (va_cons (ve_tup (va_cons (ve_un (ve_var (pv 0))) (va_cons (ve_un (ve_var (pv 1))) (va_cons (ve_un (ve_var (pv 2))) (va_cons (ve_un (ve_var (pv 3))) va_nil))))) va_nil))))))))))), hL us H Q E h⟩
theorem ok_law_right (T : Txt G G.mg) {f : Addr} {fd : FuncData} (F : Fun G.K "_law_right" "_law_right" s_law_right f fd)  {sp_law_refused : Sp} (C__law_names : Cal G.P G.w G G.mg G.base "_law_names" 3 2 m_law_names) (C__law_draw : Cal G.P G.w G G.mg G.base "_law_draw" 1 2 m_law_draw) (C__law_pick : Cal G.P G.w G G.mg G.base "_law_pick" 2 2 m_law_pick) (C_Step : CalC G.P G.w G G.mg G.base "Step" 3 5 0 m_Step_init) (C__law_fields : Cal G.P G.w G G.mg G.base "_law_fields" 3 1 m_law_fields) (C_Step_reads : CalP G.P G.w G G.mg G.base 0 "reads" 1 m_Step_reads) (C_Step_eq : CalO G.P G.w G G.mg G.base 0 "__eq__" 1 2 m_Step_eq) (C__law_odd : Cal G.P G.w G G.mg G.base "_law_odd" 1 4 m_law_odd) (CH_law_refused : CalH G.P G.w G G.mg G.base "_law_refused" 5 sp_law_refused) {spO : Sp} (len : ∀ us H Q E, spO us H Q E → us.length = 1) (hL : ∀ us H Q E, spO us H Q E → law_right_T G sp_law_refused { nx := fun _ H1 => Q .non H1, rt := Q } (L2.start N_law_right us) H) : FnG G.P G.w G.K G.mg G.base 6 f fd ["_law_purse_here"] spO :=
  fnG_of F sc_law_right len fun cdv A outer sh H us Q E hgd hr h => ⟨law_right_T G sp_law_refused, (pss_cons (ps_x fun c hG => by
    subst hG
    exact (vs_set (i := 1) sc_law_right.nd (ve_callM C__law_names rfl (hr.mono (by decide)) (pv 0) (va_cons ve_int va_nil))))
  (pss_cons (ps_x fun c hG => by
    subst hG
    exact (vs_par3 (i := 2) (j := 3) (l := 4) rfl sc_law_right.nd (va_cons (ve_ix rfl (ve_var (pv 1)) ve_int) (va_cons (ve_op od_add ve_int (ve_callM C__law_draw rfl (hr.mono (by decide)) (pv 0) (va_cons ve_int va_nil))) (va_cons (ve_callM C__law_pick rfl (hr.mono (by decide)) (pv 0) (va_cons (ve_lst (va_cons ve_int (va_cons ve_int (va_cons ve_int va_nil)))) va_nil)) va_nil))) rfl))
  (pss_cons (ps_x fun c hG => by
    subst hG
    exact (vs_ownLc (i := 5) (own := [("_law_one", 6)]) (.nm 6) rfl sc_law_right.nd (vi_list (ve_var (pv 1))) (blkOk_by (N := N_law_right) (sc := defScope s_law_right) (by decide +kernel)) rfl (fun _ _ _ _ _ => (pg_name (i := 6) sc_law_right.nd rfl (Or.inl rfl))) (fun _ _ _ _ _ _ _ _ => (vts_one (vt_cmp (od_eq hr.units) (ve_callM C__law_draw rfl (hr.mono (by decide)) (pv 0) (va_cons ve_int va_nil)) ve_int))) (fun _ _ _ _ _ _ _ _ => (ve_var (pv 6))) (sw_true rfl rfl rfl (by decide +kernel))))
  (pss_cons (ps_x fun c hG => by
    subst hG
    exact (vs_set (i := 7) sc_law_right.nd (ve_listM (i := 5) T.n_list (pv 5))))
  (pss_cons (ps_par (i := 8) (j := 9) rfl sc_law_right.nd rfl rfl (by decide) rfl rfl (pa_x fun c hG => by
    subst hG
    exact (va_cons (ve_make C_Step T.nf0 rfl (hr.mono (by decide)) (va_cons (ve_var (pv 2)) (va_cons (ve_var (pv 3)) (va_cons (ve_var (pv 4)) (va_cons (ve_var (pv 5)) va_nil))))) (va_cons (ve_tup (va_cons (ve_var (pv 2)) (va_cons (ve_var (pv 3)) (va_cons (ve_var (pv 4)) (va_cons (ve_var (pv 7)) va_nil))))) va_nil))) rfl)
  (pss_cons (ps_if (pt_x fun c hG => by
    subst hG
    exact (PW.pt (vw_or (vt_cmp (od_ne hr.units) (ve_var (pv 5)) (ve_var (pv 7))) (pw_or1 (vt_cmp (od_ne hr.units) (ve_callB (ca_show XShow.no hgd (hu100 hr)) T.n_repr bt_repr (va_cons (ve_call C__law_fields rfl (hr.mono (by decide)) (va_cons (ve_var (pv 8)) va_nil)) va_nil)) (ve_callB (ca_show XShow.no hgd (hu100 hr)) T.n_repr bt_repr (va_cons (ve_var (pv 9)) va_nil))))))) (pss_one (ps_x fun c hG => by
    subst hG
    exact (vs_ret ve_bl))) pss_nil)
  (pss_cons (ps_appR (pv 5))
  (pss_cons (ps_appS (te := vtQ G law_right_hb_8) (pe_x fun c hG => by
    subst hG
    exact (ve_prop C_Step_reads rfl T.c0.cl (hr.mono (by decide)) (ve_var (pv 8)))) rfl rfl rfl rfl rfl rfl vtQ_mono)
  (pss_cons (ps_if (pt_x fun c hG => by
    subst hG
    exact (vt_cmp (od_ne hr.units) (ve_call C__law_fields rfl (hr.mono (by decide)) (va_cons (ve_var (pv 8)) va_nil)) (ve_var (pv 9)))) (pss_one (ps_x fun c hG => by
    subst hG
    exact (vs_ret ve_bl))) pss_nil)
  (pss_cons (ps_x fun c hG => by
    subst hG
    exact (vs_own (i := 10) sc_law_right.nd (va_cons (ve_var (pv 9)) (va_cons (ve_tup (va_cons (ve_var (pv 2)) (va_cons (ve_var (pv 3)) (va_cons (ve_var (pv 4)) (va_cons (ve_rev (ve_var (pv 7))) va_nil))))) (va_cons (ve_tup (va_cons (ve_ix rfl (ve_var (pv 1)) ve_int) (va_cons (ve_var (pv 3)) (va_cons (ve_var (pv 4)) (va_cons (ve_var (pv 7)) va_nil))))) (va_cons (ve_tup (va_cons (ve_var (pv 2)) (va_cons (ve_op od_add (ve_var (pv 3)) ve_int) (va_cons (ve_var (pv 4)) (va_cons (ve_var (pv 7)) va_nil))))) va_nil))))))
  (pss_cons (ps_x fun c hG => by
    subst hG
    exact (vs_ownAdd (i := 10) sc_law_right.nd (ve_var (pv 10)) (ve_lst (va_cons (ve_tup (va_cons (ve_var (pv 2)) (va_cons (ve_var (pv 3)) (va_cons (ve_op od_add (ve_var (pv 4)) ve_int) (va_cons (ve_var (pv 7)) va_nil))))) (va_cons (ve_tup (va_cons (ve_var (pv 2)) (va_cons (ve_var (pv 3)) (va_cons (ve_var (pv 4)) (va_cons (ve_slice (ve_var (pv 7)) (vo_some ve_int) vo_none) va_nil))))) va_nil)))))
  (pss_cons (ps_x fun c hG => by
    subst hG
    exact (vs_app (pv 10) (ve_tup (va_cons (ve_var (pv 2)) (va_cons (ve_var (pv 3)) (va_cons (ve_var (pv 4)) (va_cons (ve_op od_add (ve_var (pv 7)) (ve_lst (va_cons ve_str va_nil))) va_nil)))))))
  (pss_cons (ps_x fun c hG => by
    subst hG
    exact (vs_set (i := 11) sc_law_right.nd (ve_callM C__law_pick rfl (hr.mono (by decide)) (pv 0) (va_cons (ve_var (pv 10)) va_nil))))
  (pss_cons (ps_set (i := 12) sc_law_right.nd rfl (Or.inl rfl) (pe_x fun c hG => by
    subst hG
    exact (ve_cmp (od_eq hr.units) (ve_slice (ve_var (pv 11)) vo_none (vo_some ve_int)) (ve_slice (ve_var (pv 9)) vo_none (vo_some ve_int)))))
  (pss_cons (ps_if (pt_x fun c hG => by
    subst hG
    exact (vt_cmp (od_ne hr.units) (ve_callB (ca_sortedS) T.n_sorted bt_sorted (va_cons (ve_lc (own := [("_law_one", 6)]) (.nm 6) rfl sc_law_right.nd (vi_list (ve_ix rfl (ve_var (pv 11)) ve_int)) (blkOk_by (N := N_law_right) (sc := defScope s_law_right) (by decide +kernel)) rfl (fun _ _ _ _ _ => (pg_name (i := 6) sc_law_right.nd rfl (Or.inl rfl))) (fun _ _ _ _ _ _ _ _ => vts_nil) (fun _ _ _ _ _ _ _ _ => (ve_callT ca_str T.n_str bt_str (va_cons (ve_var (pv 6)) va_nil)))) va_nil)) (ve_callB (ca_sortedS) T.n_sorted bt_sorted (va_cons (ve_lc (own := [("_law_one", 6)]) (.nm 6) rfl sc_law_right.nd (vi_list (ve_var (pv 7))) (blkOk_by (N := N_law_right) (sc := defScope s_law_right) (by decide +kernel)) rfl (fun _ _ _ _ _ => (pg_name (i := 6) sc_law_right.nd rfl (Or.inl rfl))) (fun _ _ _ _ _ _ _ _ => vts_nil) (fun _ _ _ _ _ _ _ _ => (ve_callT ca_str T.n_str bt_str (va_cons (ve_var (pv 6)) va_nil)))) va_nil)))) (pss_one (ps_set (i := 12) sc_law_right.nd rfl (Or.inl rfl) (pe_x fun c hG => by
    subst hG
    exact ve_bl))) pss_nil)
  (pss_cons (ps_set (i := 13) sc_law_right.nd rfl (Or.inl rfl) (pe_x fun c hG => by
    subst hG
    exact (ve_make C_Step T.nf0 rfl (hr.mono (by decide)) (va_cons (ve_ix rfl (ve_var (pv 11)) ve_int) (va_cons (ve_ix rfl (ve_var (pv 11)) ve_int) (va_cons (ve_ix rfl (ve_var (pv 11)) ve_int) (va_cons (ve_callT ca_list T.n_list bt_list (va_cons (ve_ix rfl (ve_var (pv 11)) ve_int) va_nil)) va_nil)))))))
  (pss_cons (ps_if (pt_x fun c hG => by
    subst hG
    exact (PW.pt (vw_or (vt_cmp (od_ne hr.units) (ve_mt2C C_Step_eq (fun _ _ => rfl) rfl rfl (hr.mono (by decide)) (ve_var (pv 8)) (ve_var (pv 13))) (ve_var (pv 12))) (vw_or (vt_cmp (od_eq hr.units) (ve_neO C_Step_eq T.ne0 rfl (hr.mono (by decide)) (ve_var (pv 8)) (ve_var (pv 13))) (ve_var (pv 12))) (vw_or (vt_mtA C_Step_eq T.nfb0 (fun _ _ => rfl) rfl rfl (hr.mono (by decide)) (ve_var (pv 8)) (ve_var (pv 9))) (pw_or1 (vt_mtA C_Step_eq T.nfb0 (fun _ _ => rfl) rfl rfl (hr.mono (by decide)) (ve_var (pv 8)) ve_non))))))) (pss_one (ps_x fun c hG => by
    subst hG
    exact (vs_ret ve_bl))) pss_nil)
  (pss_cons (ps_for PassesOwn.never rfl (pi_list (pe_lock (pe_x fun c hG => by
    subst hG
    exact (ve_call C__law_odd rfl (hr.mono (by decide)) (va_cons (ve_var (pv 2)) (va_cons (ve_var (pv 3)) (va_cons (ve_var (pv 4)) (va_cons (ve_var (pv 7)) va_nil)))))))) (pg_name (i := 6) sc_law_right.nd rfl (Or.inl rfl)) (pss_one (ps_if (pt_not (pt_val (pe_callH CH_law_refused rfl hgd (hr.mono (by decide)) (pa_x fun c hG => by
    subst hG
    exact (va_cons (ve_ix rfl (ve_var (pv 6)) ve_int) (va_cons (ve_ix rfl (ve_var (pv 6)) ve_int) (va_cons (ve_ix rfl (ve_var (pv 6)) ve_int) (va_cons (ve_ix rfl (ve_var (pv 6)) ve_int) va_nil)))))) (by intro _; rfl))) (pss_one (ps_x fun c hG => by
    subst hG
    exact (vs_ret ve_bl))) pss_nil)))
  (pss_one (ps_ret (pe_x fun c hG => by
    subst hG
    exact (ve_cmp (od_eq hr.units) (ve_call C__law_fields rfl (hr.mono (by decide)) (va_cons (ve_var (pv 8)) va_nil)) (ve_var (pv 9)))))))))))))))))))))))), hL us H Q E h⟩
theorem ok_law (T : Txt G G.mg) {f : Addr} {fd : FuncData} (F : Fun G.K "law" "law" s_law f fd)  {sp_law_right : Sp} (C__law_purse : CalM G.P G.w G G.mg G.base "_law_purse" 1 2 m_law_purse) (CH_law_right : CalH G.P G.w G G.mg G.base "_law_right" 6 sp_law_right) (hL : LawOk G sp_law_right) : FnG G.P G.w G.K G.mg G.base 7 f fd ["_law_script"] (spLaw G) :=
  fnG_of F sc_law (fun us H Q E ⟨a, ns, e, _⟩ => by subst e; rfl) fun cdv A outer sh H us Q E hgd hr h => ⟨lawT G sp_law_right, (pss_cons (ps_forQ (t := (.nm 1)) PassesOwn.never rfl (fun c hG => by
    subst hG
    exact (vif_range1 T.n_range (va_cons ve_int va_nil))) (pg_name (i := 1) sc_law.nd rfl (Or.inl rfl))
  (pss_one (ps_if (pt_not (pt_val (pe_callH CH_law_right rfl hgd (hr.mono (by decide)) (pa_cons (pe_callN C__law_purse rfl (hr.mono (by decide)) (pa_x fun c hG => by
    subst hG
    exact (va_cons (ve_var (pv 0)) (va_cons (ve_var (pv 1)) va_nil)))) pa_nil)) (by intro _; rfl))) (pss_one (ps_x fun c hG => by
    subst hG
    exact (vs_ret ve_bl))) pss_nil)))
  (pss_one (ps_x fun c hG => by
    subst hG
    exact (vs_ret ve_bl)))), hL us H Q E h⟩
end
end Toy

set_option Elab.async false
set_option linter.all false
set_option maxRecDepth 100000
set_option maxHeartbeats 8000000
namespace Toy
open PySem PySem.Spec PyProof.Rows L2 VS
def Sm (b : Nat) (i : Int) : Prop := i.natAbs < 2 ^ b
theorem Sm.bd {b : Nat} {i : Int} (h : Sm b i) (hb : b ≤ 4000) : Bd i := Nat.lt_of_lt_of_le h (Nat.pow_le_pow_right (by decide) hb)
theorem Sm.mono {b d : Nat} {i : Int} (h : Sm b i) (hb : b ≤ d) : Sm d i := Nat.lt_of_lt_of_le h (Nat.pow_le_pow_right (by decide) hb)
theorem Sm.mul {b d : Nat} {i j : Int} (h : Sm b i) (k : Sm d j) : Sm (b + d) (i * j) := by
  unfold Sm at *
  rw [Int.natAbs_mul, Nat.pow_add]
  exact Nat.mul_lt_mul'' h k
theorem Sm.add {b : Nat} {i j : Int} (h : Sm b i) (k : Sm b j) : Sm (b + 1) (i + j) := by
  unfold Sm at *
  rw [Nat.pow_succ]
  omega
theorem Sm.sub {b : Nat} {i j : Int} (h : Sm b i) (k : Sm b j) : Sm (b + 1) (i - j) := by
  unfold Sm at *
  rw [Nat.pow_succ]
  omega
theorem Sm.add' {b d e : Nat} {i j : Int} (h : Sm b i) (k : Sm d j) (hb : b < e) (hd : d < e) : Sm e (i + j) := by
  have := (h.mono (d := e - 1) (by omega)).add (k.mono (d := e - 1) (by omega))
  rwa [show e - 1 + 1 = e by omega] at this
structure Stp where
  nm : Str
  p : Int
  l : Int
  rd : List Str
abbrev Nt := List Stp
def pp (ns : Nt) (i : Nat) : Int := ((ns[i]?).map (·.p)).getD 1
def ll (ns : Nt) (i : Nat) : Int := ((ns[i]?).map (·.l)).getD 0
def ss (S : List Int) (i : Nat) : Int := (S[i]?).getD 0
theorem atI_nat {α : Type} (xs : List α) (i : Nat) : L2.atI xs (i : Int) = xs[i]? := by
  unfold L2.atI L2.ixN
  rw [if_pos (by omega)]
  by_cases h : (i : Int) < xs.length
  · rw [if_pos h]; rfl
  · rw [if_neg h, List.getElem?_eq_none (by omega)]; rfl
theorem gMul_eq {a b : Int} (h1 : Bd a) (h2 : Bd b) : gMul (.int a) (.int b) = some (.int (a * b)) := if_pos ⟨h1, h2⟩
theorem gFdiv_eq {a b : Int} (h1 : 0 < b) (h2 : Bd b) : gFdiv (.int a) (.int b) = some (.int (a / b)) := if_pos ⟨h1, h2⟩
theorem gMod_eq {a b : Int} (h1 : 0 < b) : gMod (.int a) (.int b) = some (.int (a % b)) := if_pos h1
theorem gAdd_eq {a b : Int} : gAdd (.int a) (.int b) = some (.int (a + b)) := rfl
theorem gSub_eq {a b : Int} : gSub (.int a) (.int b) = some (.int (a - b)) := rfl
theorem gIx_lst {xs : List D} {i : Int} : gIx (.lst xs) (.int i) = L2.atI xs i := rfl
theorem map_get {α β : Type} {f : α → β} {xs : List α} {i : Nat} {x : α} (h : xs[i]? = some x) : (xs.map f)[i]? = some (f x) := by rw [List.getElem?_map, h]; rfl
end Toy

set_option Elab.async false
set_option linter.all false
set_option maxRecDepth 100000
set_option maxHeartbeats 8000000
namespace Toy
open PySem PySem.Spec PyProof.Rows L2 VS
def gd (a b : Int) : Int := (Int.gcd a b : Int)
theorem gEq_int {a b : Int} : gEq (.int a) (.int b) = some (.bl (decide (a = b))) := rfl
theorem gGt_int {a b : Int} : gGt (.int a) (.int b) = some (.bl (decide (b < a))) := rfl
theorem gLt_int {a b : Int} : gLt (.int a) (.int b) = some (.bl (decide (a < b))) := rfl
theorem gLe_int {a b : Int} : gLe (.int a) (.int b) = some (.bl (decide (a ≤ b))) := rfl
theorem gInt_int {a : Int} : gInt [.int a] = some (.int a) := rfl
theorem gd_pos {a b : Int} (hb : 0 < b) : 0 < gd a b := by
  have : 0 < Int.gcd a b := Int.gcd_pos_of_ne_zero_right a (by omega)
  unfold gd
  omega
theorem gd_dvd_l (a b : Int) : gd a b ∣ a := Int.gcd_dvd_left ..
def ab (a : Int) : Int := if a < 0 then -a else a
theorem gTup2 {a b : D} : VS.gTup [a, b] = some (.tup [a, b]) := by
  unfold VS.gTup
  rw [if_pos (by show 2 ≤ 1000000; decide)]
end Toy

set_option Elab.async false
set_option linter.all false
set_option maxRecDepth 100000
set_option maxHeartbeats 8000000
namespace Toy
open PySem PySem.Spec PyProof.Rows L2 VS
def PuB (k : Nat) (xs : List D) : Prop := ∃ a b c : Int, xs = [.int a, .int b, .int c] ∧ 0 ≤ a ∧ Sm 1400 a ∧ 0 ≤ b ∧ b < 2147483629 ∧ 0 ≤ c ∧ c ≤ (k : Int)
theorem PuB.mono {k n : Nat} {xs : List D} (h : PuB k xs) (l : k ≤ n) : PuB n xs := by
  obtain ⟨a, b, c, e, h1, h2, h3, h4, h5, h6⟩ := h
  exact ⟨a, b, c, e, h1, h2, h3, h4, h5, by omega⟩
theorem sm_of {k : Nat} {i : Int} (h0 : 0 ≤ i) (h : i < 2 ^ k) : Sm k i := by
  unfold Sm
  have : ((i.natAbs : Nat) : Int) < ((2 ^ k : Nat) : Int) := by
    rw [Int.natAbs_of_nonneg h0]
    push_cast
    exact h
  exact_mod_cast this
theorem sm_mod {k : Nat} {i j : Int} (h0 : 0 < j) (h : j ≤ 2 ^ k) : Sm k (i % j) := sm_of (Int.emod_nonneg i (by omega)) (by have := Int.emod_lt_of_pos i h0; omega)
theorem atI0 {a b c : D} : L2.atI [a, b, c] 0 = some a := rfl
theorem atI1 {a b c : D} : L2.atI [a, b, c] 1 = some b := rfl
theorem atI2 {a b c : D} : L2.atI [a, b, c] 2 = some c := rfl
theorem ixN0 : ixN 3 0 = some 0 := rfl
theorem ixN2 : ixN 3 2 = some 2 := rfl
theorem law_draw_eq {k : Nat} {xs : List D} {m : Int} (h : PuB k xs) (hk : k ≤ 1000000) (hm : 0 < m) (hs : Sm 3000 m) :
    ∃ d ys, m_law_draw [.bor xs, .val (.int m)] = some (.int d, ys) ∧ 0 ≤ d ∧ d < m ∧ PuB (k + 1) ys := by
  obtain ⟨a, b, c, rfl, ha, sa, hb, hb2, hc, hc2⟩ := h
  have bm := hs.bd (by decide)
  by_cases z : 0 < a
  · refine ⟨a % m, [.int (a / m), .int b, .int c], ?_, Int.emod_nonneg _ (by omega), Int.emod_lt_of_pos _ hm, _, _, _, rfl, Int.ediv_nonneg ha (by omega), ?_, hb, hb2, hc, by omega⟩
    · simp only [m_law_draw, b_law_draw, mir, List.length_cons, List.length_nil, Nat.zero_add, Nat.reduceAdd, Nat.reduceSub, List.cons_append, List.nil_append, List.replicate, kS, kIf, sB, s2, sL, aC, aN, sIxM, conM, sK, sV, List.getElem?_cons_zero, List.getElem?_cons_succ, atI0, gGt_int, z, decide_true, kSet, gInt_int, gMod_eq hm, List.set_cons_zero, List.set_cons_succ, kPut, gFdiv_eq hm bm, ixN0, setM, kRet, outOf]
    · have h1 := Int.ediv_le_self m ha
      have h2 : 0 ≤ a / m := Int.ediv_nonneg ha (by omega)
      unfold Sm at *
      omega
  · have st : Sm 21 (c + 1) := sm_of (by omega) (by omega)
    have sb : Sm 31 b := sm_of hb (by omega)
    have s1 : Sm 17 (104729 : Int) := sm_of (by decide) (by decide)
    have s3 : Sm 38 (104729 * (c + 1)) := s1.mul st
    have s4 : Sm 39 (b + 104729 * (c + 1)) := sb.add' s3 (by decide) (by decide)
    have s5 : Sm 42 ((c + 1) * (c + 1)) := st.mul st
    have s6 : Sm 43 ((c + 1) * (c + 1) + 7919) := s5.add' (sm_of (k := 13) (by decide) (by decide)) (by decide) (by decide)
    obtain ⟨u, hu⟩ : ∃ u, u = (b + 104729 * (c + 1)) * ((c + 1) * (c + 1) + 7919) % 2147483629 := ⟨_, rfl⟩
    have su : Sm 31 u := by rw [hu]; exact sm_mod (by decide) (by decide)
    obtain ⟨v, hv⟩ : ∃ v, v = (u * u + (c + 1)) % 2147483587 := ⟨_, rfl⟩
    have sv : Sm 31 v := by rw [hv]; exact sm_mod (by decide) (by decide)
    refine ⟨v * 48271 % 2147483647 / 64 % m, [.int a, .int b, .int (c + 1)], ?_, Int.emod_nonneg _ (by omega), Int.emod_lt_of_pos _ hm, _, _, _, rfl, ha, sa, hb, hb2, by omega, by omega⟩
    have b1 := s1.bd (by decide)
    have b2 := st.bd (by decide)
    have b3 := s4.bd (by decide)
    have b4 := s6.bd (by decide)
    have b5 := su.bd (by decide)
    have b6 := sv.bd (by decide)
    have b7 : Bd 48271 := (sm_of (k := 20) (by decide) (by decide) : Sm 20 48271).bd (by decide)
    have b8 : Bd 64 := (sm_of (k := 20) (by decide) (by decide) : Sm 20 64).bd (by decide)
    have p1 : (0 : Int) < 2147483629 := by decide
    have p2 : (0 : Int) < 2147483587 := by decide
    have p3 : (0 : Int) < 2147483647 := by decide
    have p4 : (0 : Int) < 64 := by decide
    simp only [m_law_draw, b_law_draw, mir, List.length_cons, List.length_nil, Nat.zero_add, Nat.reduceAdd, Nat.reduceSub, List.cons_append, List.nil_append, List.replicate, kS, kIf, sB, s2, sL, aC, aN, sIxM, conM, sK, sV, List.getElem?_cons_zero, List.getElem?_cons_succ, atI0, atI1, atI2, gGt_int, z, decide_false, kSet, kN, gInt_int, gAdd_eq, List.set_cons_zero, List.set_cons_succ, kPut, ixN2, setM, gMul_eq b1 b2, gMul_eq b2 b2, gMul_eq b3 b4, gMod_eq p1, ← hu, gMul_eq b5 b5, gMod_eq p2, ← hv, gMul_eq b6 b7, gMod_eq p3, gFdiv_eq p4 b8, gMod_eq hm, kRet, outOf]
theorem law_pick_eq {k : Nat} {xs : List D} {its : List D} (h : PuB k xs) (hk : k ≤ 1000000) (hl : 0 < its.length) (hl2 : its.length < 1000000) :
    ∃ (d : Nat) (x : D) (ys : List D), m_law_pick [.bor xs, .val (.lst its)] = some (x, ys) ∧ its[d]? = some x ∧ PuB (k + 1) ys := by
  obtain ⟨d, ys, e, h0, h1, hp⟩ := law_draw_eq (m := its.length) h hk (by omega) ((sm_of (k := 20) (by omega) (by omega)).mono (by decide))
  obtain ⟨n, rfl⟩ := Int.eq_ofNat_of_zero_le h0
  have hn : n < its.length := by omega
  refine ⟨n, its[n], ys, ?_, by simp [hn], hp⟩
  obtain ⟨a, b, c, rfl, _⟩ := h
  have e2 : its[n]? = some its[n] := by simp [hn]
  have e3 : gLen [.lst its] = some (.int its.length) := rfl
  simp only [m_law_pick, b_law_pick, mir, List.length_cons, List.length_nil, Nat.zero_add, Nat.reduceAdd, Nat.reduceSub, List.cons_append, List.nil_append, List.replicate, kRet, s2, sV, sCallM, conM, aC, aN, sL, e3, List.map_cons, List.map_nil, List.getElem?_cons_zero, List.getElem?_cons_succ, if_true, e, setM, List.set_cons_zero, gIx_lst, atI_nat, e2, outOf]
theorem pow_a : gPow (.int 10) (.int 18) = some (.int (10 ^ 18)) := by kernel_rfl
theorem pow_b : gPow (.int 10) (.int 40) = some (.int (10 ^ 40)) := by kernel_rfl
theorem pow_c : gPow (.int (10 ^ 40)) (.int 10) = some (.int (10 ^ 400)) := by kernel_rfl
theorem gMax2 {i j : Int} : gMax [.int i, .int j] = some (.int (if j > i then j else i)) := rfl
theorem purse_tail (cell : Int) : ∃ x y : Int, (∀ ρ : Rho, ρ[2]? = some (.val (.int cell)) → kRetL (aC (s2 gMod (sL gInt (aC (sL gMax (aC (s2 gSub (sV 2) (s2 gPow (sK (.int 10)) (sK (.int 18)))) (aC (sK (.int 0)) aN))) aN)) (s2 gPow (s2 gPow (sK (.int 10)) (sK (.int 40))) (sK (.int 10)))) (aC (s2 gMod (sL gInt (aC (sV 2) aN)) (sK (.int 2147483629))) (aC (sK (.int 0)) aN))) ρ = some (.rm [.int x, .int y, .int 0], ρ)) ∧ PuB 0 [.int x, .int y, .int 0] := by
  have p0 : (0 : Int) < 10 ^ 400 := by decide +kernel
  have p1 : (0 : Int) < 2147483629 := by decide
  have p2 : (10 : Int) ^ 400 ≤ 2 ^ 1400 := by decide +kernel
  refine ⟨(if 0 > cell - 10 ^ 18 then 0 else cell - 10 ^ 18) % 10 ^ 400, cell % 2147483629, fun ρ h => ?_, _, _, _, rfl, Int.emod_nonneg _ (by omega), sm_mod p0 p2, Int.emod_nonneg _ (by decide), Int.emod_lt_of_pos _ p1, by decide, by decide⟩
  simp only [kRetL, aC, aN, sL, s2, sV, sK, h, pow_a, pow_b, pow_c, gSub_eq, gMax2, gInt_int, gMod_eq p0, gMod_eq p1, List.length_cons, List.length_nil]
  rw [if_pos (by show 3 ≤ 1000000; decide)]
theorem law_purse_eq (ns : List Int) (i : Nat) : ∃ xs, m_law_purse [.val (.scr (ns.map .int)), .val (.int i)] = some xs ∧ PuB 0 xs := by
  have e3 : gLen [.scr (ns.map .int)] = some (.int ns.length) := by
    show some (D.int ((ns.map D.int).length : Int)) = _
    rw [List.length_map]
  by_cases z : (i : Int) < ns.length
  · have hi : i < ns.length := by omega
    obtain ⟨x, y, h, hp⟩ := purse_tail ns[i]
    have e2 : (ns.map D.int)[i]? = some (.int ns[i]) := by simp [hi]
    refine ⟨_, ?_, hp⟩
    simp only [m_law_purse, b_law_purse, mirM, List.length_cons, List.length_nil, Nat.zero_add, Nat.reduceAdd, Nat.reduceSub, List.cons_append, List.nil_append, List.replicate, kS, kSet, kIf, sB, s2, sL, aC, aN, sK, sV, List.getElem?_cons_zero, List.getElem?_cons_succ, List.set_cons_zero, List.set_cons_succ, e3, gLt_int, z, decide_true]
    have e4 : gIx (.scr (ns.map .int)) (.int i) = some (.int ns[i]) := by
      show L2.atI (ns.map D.int) (i : Int) = _
      rw [atI_nat, e2]
    simp only [e4, List.set_cons_zero, List.set_cons_succ]
    have h' := h [Sl.val (D.scr (ns.map .int)), Sl.val (D.int i), Sl.val (D.int ns[i])] rfl
    simp only [kRetL, aC, aN, sL, s2, sV, sK] at h' ⊢
    rw [h']
  · obtain ⟨x, y, h, hp⟩ := purse_tail 0
    refine ⟨_, ?_, hp⟩
    simp only [m_law_purse, b_law_purse, mirM, List.length_cons, List.length_nil, Nat.zero_add, Nat.reduceAdd, Nat.reduceSub, List.cons_append, List.nil_append, List.replicate, kS, kSet, kIf, kN, sB, s2, sL, aC, aN, sK, sV, List.getElem?_cons_zero, List.getElem?_cons_succ, List.set_cons_zero, List.set_cons_succ, e3, gLt_int, z, decide_false]
    have h' := h [Sl.val (D.scr (ns.map .int)), Sl.val (D.int i), Sl.val (D.int 0)] rfl
    simp only [kRetL, aC, aN, sL, s2, sV, sK] at h' ⊢
    rw [h']
end Toy

set_option Elab.async false
set_option linter.all false
set_option maxRecDepth 100000
set_option maxHeartbeats 8000000
namespace Toy
open PySem PySem.Spec PyProof.Rows L2 VS
def lc1 (f n : Int) : Int := f / gd f n * n
def lcmF : Int → List Int → Int
  | f, [] => f
  | f, n :: r => lcmF (lc1 f n) r
def lcmL (ns : List Int) : Int := lcmF 1 ns
theorem lc1_pos {f n : Int} (hf : 0 < f) (hn : 0 < n) : 0 < lc1 f n := by
  have g := gd_pos (a := f) hn
  have h : 0 < f / gd f n := Int.ediv_pos_of_pos_of_dvd hf (by omega) (gd_dvd_l f n)
  exact Int.mul_pos h hn
theorem lc1_sm {k : Nat} {f n : Int} (hf : 0 < f) (hn : 0 < n) (h1 : Sm k f) (h2 : Sm 60 n) : Sm (k + 60) (lc1 f n) := by
  have g := gd_pos (a := f) hn
  have a1 := Int.ediv_le_self (gd f n) (Int.le_of_lt hf)
  have a2 : 0 ≤ f / gd f n := Int.ediv_nonneg (by omega) (by omega)
  have : Sm k (f / gd f n) := by
    unfold Sm at *
    omega
  exact this.mul h2
theorem lcmF_pos : ∀ {ns : List Int} {f : Int}, 0 < f → (∀ n ∈ ns, 0 < n) → 0 < lcmF f ns
  | [], _, h, _ => h
  | n :: r, f, h, q => lcmF_pos (ns := r) (lc1_pos h (q n List.mem_cons_self)) fun m hm => q m (List.mem_cons_of_mem _ hm)
theorem lcmF_sm : ∀ {ns : List Int} {k : Nat} {f : Int}, 0 < f → Sm k f → (∀ n ∈ ns, 0 < n ∧ Sm 60 n) → Sm (k + 60 * ns.length) (lcmF f ns)
  | [], k, f, _, h, _ => h
  | n :: r, k, f, h0, h, q => by
    have q1 := q n List.mem_cons_self
    have := lcmF_sm (ns := r) (lc1_pos h0 q1.1) (lc1_sm h0 q1.1 h q1.2) fun m hm => q m (List.mem_cons_of_mem _ hm)
    rw [show k + 60 * (n :: r).length = k + 60 + 60 * r.length by simp; omega]
    exact this
theorem cLoop_map {α : Type} {t : Tg} {tt : SB} {e : SE} {ρ : Rho} {g : α → D} {f : α → D} : ∀ {ds : List α}, (∀ d ∈ ds, turnC t tt e (g d) ρ = some (some (f d), ρ)) → cLoop t tt e (ds.map g) ρ = some (ds.map f, ρ)
  | [], _ => rfl
  | d :: r, h => by
    have ih := cLoop_map (g := g) (f := f) (ds := r) fun m hm => h m (List.mem_cons_of_mem _ hm)
    simp only [List.map_cons, cLoop, h d List.mem_cons_self, ih]
def Steps (ns : Nt) : Prop := (∀ s ∈ ns, 0 < s.p ∧ Sm 60 s.p ∧ Sm 60 s.l) ∧ ns.length ≤ 60
def turns (ns : Nt) : List Int := ns.map (·.p)
end Toy

set_option Elab.async false
set_option linter.all false
set_option maxRecDepth 100000
set_option maxHeartbeats 8000000
namespace Toy
open PySem PySem.Spec PyProof.Rows L2 VS
structure Ask (ns : Nt) (S : List Int) (sc : Int) (P : List Nat) (m : Nat) : Prop where
  st : Steps ns
  len : S.length = ns.length
  bS : ∀ x ∈ S, Sm 500 x
  c0 : 0 < sc
  bc : Sm 400 sc
  pl : P.length = m + 1
  pm : m ≤ 6
  pi : ∀ i ∈ P, i < ns.length
  lc : lcmL (turns ns) ≤ 100000
def rr (ns : Nt) (S : List Int) (sc : Int) (r q : Nat) (run : Int) : Int := (ss S r + run * pp ns r * sc - ss S q - ll ns q * sc) / (pp ns q * sc)
def atP (P : List Nat) (i : Nat) : Nat := (P[i]?).getD 0
def carry (ns : Nt) (S : List Int) (sc : Int) (P : List Nat) : Nat → Int → Int
  | 0, run => run
  | k + 1, run => carry ns S sc P k (rr ns S sc (atP P (k + 1)) (atP P k) run)
section
variable {ns : Nt} {S : List Int} {sc : Int} {P : List Nat} {m : Nat}
theorem Ask.step (A : Ask ns S sc P m) {i : Nat} (h : i < ns.length) : ∃ s, ns[i]? = some s ∧ pp ns i = s.p ∧ ll ns i = s.l ∧ 0 < s.p ∧ Sm 60 s.p ∧ Sm 60 s.l := by
  have e : ns[i]? = some ns[i] := by simp [h]
  have q := A.st.1 ns[i] (List.getElem_mem h)
  exact ⟨ns[i], e, by simp [pp, e], by simp [ll, e], q⟩
theorem Ask.start (A : Ask ns S sc P m) {i : Nat} (h : i < ns.length) : ∃ x, S[i]? = some x ∧ ss S i = x ∧ Sm 500 x := by
  have h2 : i < S.length := by rw [A.len]; exact h
  have e : S[i]? = some S[i] := by simp [h2]
  exact ⟨S[i], e, by simp [ss, e], A.bS _ (List.getElem_mem h2)⟩
theorem Ask.place (A : Ask ns S sc P m) {i : Nat} (h : i ≤ m) : P[i]? = some (atP P i) ∧ atP P i < ns.length := by
  have h2 : i < P.length := by rw [A.pl]; omega
  have e : P[i]? = some P[i] := by simp [h2]
  have e2 : atP P i = P[i] := by simp [atP, e]
  rw [e2]
  exact ⟨e, A.pi _ (List.getElem_mem h2)⟩
theorem gLen_lst {xs : List D} : gLen [.lst xs] = some (.int xs.length) := rfl
end
end Toy

set_option Elab.async false
set_option linter.all false
set_option maxRecDepth 100000
set_option maxHeartbeats 8000000
namespace Toy
open PySem PySem.Spec PyProof.Rows L2 VS
section
variable {ns : Nt} {S : List Int} {sc : Int} {P : List Nat} {m : Nat}
theorem atI_m1 {α : Type} {xs : List α} {k : Nat} (h : xs.length = k + 1) : L2.atI xs (-1) = xs[k]? := by
  unfold L2.atI L2.ixN
  rw [if_neg (by decide), if_pos (by omega)]
  show xs[(-1 + (xs.length : Int)).toNat]? = xs[k]?
  congr 1
  omega
theorem Ask.last (A : Ask ns S sc P m) : gIx (.lst (P.map fun i => D.int (i : Nat))) (.int (-1)) = some (.int (atP P m : Nat)) := by
  show L2.atI _ _ = _
  rw [atI_m1 (k := m) (by rw [List.length_map]; exact A.pl)]
  exact map_get (A.place (Nat.le_refl _)).1
theorem Ask.first (A : Ask ns S sc P m) : gIx (.lst (P.map fun i => D.int (i : Nat))) (.int 0) = some (.int (atP P 0 : Nat)) := by
  show L2.atI _ ((0 : Nat) : Int) = _
  rw [atI_nat]
  exact map_get (A.place (Nat.zero_le _)).1
end
end Toy

set_option Elab.async false
set_option linter.all false
set_option maxRecDepth 100000
set_option maxHeartbeats 8000000
namespace Toy
open PySem PySem.Spec PyProof.Rows L2 VS
theorem mir_rt {n : Nat} {s : SS} {sl : List Sl} {ρ0 ρ : Rho} {d : D} {o : List D} (h0 : sl ++ List.replicate (n - sl.length) .no = ρ0) (h : s ρ0 = some (.rt d, ρ)) (ho : outOf sl ρ = some o) : mir n s sl = some (d, o) := by
  unfold mir
  rw [h0, h]
  simp only [ho]
theorem mir_nx {n : Nat} {s : SS} {sl : List Sl} {ρ0 ρ : Rho} {o : List D} (h0 : sl ++ List.replicate (n - sl.length) .no = ρ0) (h : s ρ0 = some (.nx, ρ)) (ho : outOf sl ρ = some o) : mir n s sl = some (.non, o) := by
  unfold mir
  rw [h0, h]
  simp only [ho]
theorem kS_nx {a b : SS} {ρ ρ1 : Rho} {r : Option (Fl × Rho)} (h : a ρ = some (.nx, ρ1)) (h2 : b ρ1 = r) : kS a b ρ = r := by
  unfold kS
  rw [h]
  exact h2
theorem kRet_of {e : SE} {ρ ρ1 : Rho} {d : D} (h : e ρ = some (d, ρ1)) : kRet e ρ = some (.rt d, ρ1) := by
  unfold kRet
  rw [h]
theorem kSet_of {i : Nat} {e : SE} {ρ ρ1 : Rho} {d : D} (h : e ρ = some (d, ρ1)) : kSet i e ρ = some (.nx, ρ1.set i (.val d)) := by
  unfold kSet
  rw [h]
theorem kIf_f {t : SB} {a b : SS} {ρ ρ1 : Rho} {r : Option (Fl × Rho)} (h : t ρ = some (false, ρ1)) (h2 : b ρ1 = r) : kIf t a b ρ = r := by
  unfold kIf
  rw [h]
  exact h2
theorem kIf_t {t : SB} {a b : SS} {ρ ρ1 : Rho} {r : Option (Fl × Rho)} (h : t ρ = some (true, ρ1)) (h2 : a ρ1 = r) : kIf t a b ρ = r := by
  unfold kIf
  rw [h]
  exact h2
theorem sComp_of {it : SI} {t : Tg} {tt : SB} {e : SE} {ρ ρ1 ρ2 : Rho} {ds out : List D} (hi : it ρ = some (ds, ρ1)) (hc : cLoop t tt e ds ρ1 = some (out, ρ2)) (hl : out.length ≤ LN) : sComp it t tt e ρ = some (.lst out, ρ2) := by
  unfold sComp
  rw [hi]
  simp only [hc]
  rw [if_pos hl]
theorem s1_of {g : G1} {a : SE} {ρ ρ1 : Rho} {x d : D} (h : a ρ = some (x, ρ1)) (hg : g x = some d) : s1 g a ρ = some (d, ρ1) := by
  unfold s1
  rw [h]
  simp only [hg]
theorem s2_of {g : G2} {a b : SE} {ρ ρ1 ρ2 : Rho} {x y d : D} (h : a ρ = some (x, ρ1)) (h2 : b ρ1 = some (y, ρ2)) (hg : g x y = some d) : s2 g a b ρ = some (d, ρ2) := by
  unfold s2
  rw [h]
  simp only [h2, hg]
theorem sL_of {g : GL} {a : SA} {ρ ρ1 : Rho} {xs : List D} {d : D} (h : a ρ = some (xs, ρ1)) (hg : g xs = some d) : sL g a ρ = some (d, ρ1) := by
  unfold sL
  rw [h]
  simp only [hg]
theorem aC_of {a : SE} {r : SA} {ρ ρ1 ρ2 : Rho} {x : D} {xs : List D} (h : a ρ = some (x, ρ1)) (h2 : r ρ1 = some (xs, ρ2)) : aC a r ρ = some (x :: xs, ρ2) := by
  unfold aC
  rw [h]
  simp only [h2]
theorem sCall_of {n : Nat} {m : Mir} {a : SA} {ρ ρ1 : Rho} {xs : List D} {d : D} {o : List D} (h : a ρ = some (xs, ρ1)) (hn : xs.length = n) (hm : m (xs.map .val) = some (d, o)) : sCall n m a ρ = some (d, ρ1) := by
  unfold sCall
  rw [h]
  simp only [hn, if_true, hm]
theorem sB_of {s : SE} {ρ ρ1 : Rho} {b : Bool} (h : s ρ = some (.bl b, ρ1)) : sB s ρ = some (b, ρ1) := by
  unfold sB
  rw [h]
section
variable {ns : Nt} {S : List Int} {sc : Int} {P : List Nat} {m : Nat}
end
end Toy

set_option Elab.async false
set_option linter.all false
set_option maxRecDepth 100000
set_option maxHeartbeats 8000000
namespace Toy
open PySem PySem.Spec PyProof.Rows L2 VS
section
variable {ns : Nt} {S : List Int} {sc : Int} {P : List Nat} {m : Nat}
end
end Toy

set_option Elab.async false
set_option linter.all false
set_option maxRecDepth 100000
set_option maxHeartbeats 8000000
namespace Toy
open PySem PySem.Spec PyProof.Rows L2 VS
theorem iSeq_of {a : SE} {ρ ρ1 : Rho} {xs : List D} (h : a ρ = some (.lst xs, ρ1)) : iSeq a ρ = some (xs, ρ1) := by
  unfold iSeq
  rw [h]
theorem kTup_of {is : List Nat} {e : SE} {ρ ρ1 ρ2 : Rho} {ds : List D} (h : e ρ = some (.tup ds, ρ1)) (h2 : sets is ds ρ1 = some ρ2) : VS.kTup is e ρ = some (.nx, ρ2) := by
  unfold VS.kTup
  rw [h]
  simp only [h2]
theorem kPar_of {is : List Nat} {a : SA} {ρ ρ1 ρ2 : Rho} {ds : List D} (h : a ρ = some (ds, ρ1)) (h2 : sets is ds ρ1 = some ρ2) : kPar is a ρ = some (.nx, ρ2) := by
  unfold kPar
  rw [h]
  simp only [h2]
section
variable {ns : Nt} {S : List Int} {sc : Int} {P : List Nat} {m : Nat} {PH PA : D}
def inc (ns : Nt) (S : List Int) (sc : Int) (P : List Nat) (m : Nat) (i : Nat) : Prop := carry ns S sc P m (-1 + (i : Nat)) < carry ns S sc P m (-1 + ((i + 1 : Nat) : Int))
instance : Decidable (inc ns S sc P m i) := inferInstanceAs (Decidable (_ < _))
theorem gLt_f {a b : Int} (h : ¬ a < b) : gLt (.int a) (.int b) = some (.bl false) := by rw [gLt_int, decide_eq_false h]
end
end Toy

set_option Elab.async false
set_option linter.all false
set_option maxRecDepth 100000
set_option maxHeartbeats 8000000
namespace Toy
open PySem PySem.Spec PyProof.Rows L2 VS
section
variable {ns : Nt} {S : List Int} {sc : Int} {P : List Nat} {m : Nat} {PH PA : D}
theorem cLoop_flt {α : Type} {t : Tg} {tt : SB} {e : SE} {ρ : Rho} {g : α → D} {f : α → Option D} : ∀ {ds : List α}, (∀ d ∈ ds, turnC t tt e (g d) ρ = some (f d, ρ)) → cLoop t tt e (ds.map g) ρ = some (ds.filterMap f, ρ)
  | [], _ => rfl
  | d :: r, h => by
    have ih := cLoop_flt (g := g) (f := f) (ds := r) fun m hm => h m (List.mem_cons_of_mem _ hm)
    rw [List.map_cons, List.filterMap_cons]
    unfold cLoop
    rw [h d List.mem_cons_self]
    cases e : f d with
    | none => simp only [ih]
    | some x => simp only [ih]
end
end Toy

set_option Elab.async false
set_option linter.all false
set_option maxRecDepth 100000
set_option maxHeartbeats 8000000
namespace Toy
open PySem PySem.Spec PyProof.Rows L2 VS
def unitS (ph : List (Int × Int)) : Int := lcmL (ph.map (·.2))
def Phs (ph : List (Int × Int)) : Prop := (∀ p ∈ ph, 0 < p.2 ∧ Sm 60 p.2 ∧ Sm 60 p.1) ∧ ph.length ≤ 6
theorem Phs.pos {ph : List (Int × Int)} (h : Phs ph) : 0 < unitS ph := lcmF_pos (by decide) fun n hn => by
  obtain ⟨p, hp, rfl⟩ := List.mem_map.mp hn
  exact (h.1 p hp).1
theorem Phs.sm {ph : List (Int × Int)} (h : Phs ph) : Sm 400 (unitS ph) := by
  have := lcmF_sm (ns := ph.map (·.2)) (k := 1) (f := 1) (by decide) (sm_of (by decide) (by decide)) fun n hn => by
    obtain ⟨p, hp, rfl⟩ := List.mem_map.mp hn
    exact ⟨(h.1 p hp).1, (h.1 p hp).2.1⟩
  exact this.mono (by rw [List.length_map]; have := h.2; omega)
theorem Phs.q {ph : List (Int × Int)} (h : Phs ph) {p : Int × Int} (hp : p ∈ ph) : Sm 400 (unitS ph / p.2) := by
  have h1 := Int.ediv_le_self p.2 (Int.le_of_lt h.pos)
  have h2 : 0 ≤ unitS ph / p.2 := Int.ediv_nonneg (Int.le_of_lt h.pos) (Int.le_of_lt (h.1 p hp).1)
  have h3 := h.sm
  have h4 := h.pos
  unfold Sm at *
  omega
theorem is_whole_int (a : Int) : m_is_whole [.val (.int a)] = some (.bl true, []) := rfl
end Toy

set_option Elab.async false
set_option linter.all false
set_option maxRecDepth 100000
set_option maxHeartbeats 8000000
namespace Toy
open PySem PySem.Spec PyProof.Rows L2 VS
def NmOk (x : Str) : Prop := m_is_name [.val (.str x)] = some (.bl true, [])
theorem strs_map : ∀ (l : List Str), strs' (l.map .str) = some l
  | [] => rfl
  | i :: r => by
    simp only [List.map_cons, strs', strs_map r]
theorem distinct_nodup {α : Type} [DecidableEq α] : ∀ {l : List α}, l.Nodup → distinct l = l.length
  | [], _ => rfl
  | a :: r, h => by
    rw [List.nodup_cons] at h
    unfold distinct
    rw [if_neg h.1, distinct_nodup h.2]
    rfl
theorem fm_none {α : Type} : ∀ (l : List α), l.filterMap (fun _ => (none : Option D)) = []
  | [] => rfl
  | a :: r => by simp
theorem are_names_eq {L : List Str} (h : ∀ x ∈ L, NmOk x) (nd : L.Nodup) (hl : L.length ≤ 4000) : m_are_names [.val (.lst (L.map .str))] = some (.bl true, []) := by
  have c := cLoop_flt (t := .nm 1) (tt := bNot (sB (sCall 1 m_is_name (aC (sV 1) aN)))) (e := sV 1) (ρ := [.val (.lst (L.map .str)), .no]) (g := D.str) (f := fun _ => none) (ds := L) fun x hx => by
    have q : m_is_name [.val (.str x)] = some (.bl true, []) := h x hx
    simp only [turnC, okT, Tg.ix, List.all_cons, List.all_nil, List.getElem?_cons_succ, List.getElem?_cons_zero, Bool.and_true, if_true, blkR, wipeR, toB, List.map_cons, List.map_nil, tgt, List.set_cons_succ, List.set_cons_zero, bNot, sB, sCall, aC, aN, sV, List.length_cons, List.length_nil, Nat.zero_add, q, Bool.not_true, restore, Option.map_some]
  rw [fm_none] at c
  have ls : gLenSet (.lst (L.map .str)) = some (.int (L.length : Nat)) := by
    unfold gLenSet
    simp only [strs_map, hl, if_true, distinct_nodup nd]
  have ll : gLen [.lst (L.map .str)] = some (.int (L.length : Nat)) := by
    rw [gLen_lst, List.length_map]
  have ee : gEq (.int (L.length : Nat)) (.int (L.length : Nat)) = some (.bl true) := by
    rw [gEq_int]
    simp
  have t1 : bOr (bNot (sB (s1 (gIsTy2 3) (sV 0)))) (sB (s2 gNe (sComp (iSeq (sV 0)) (.nm 1) (bNot (sB (sCall 1 m_is_name (aC (sV 1) aN)))) (sV 1)) (sL VS.gLst aN))) [.val (.lst (L.map .str)), .no] = some (false, [.val (.lst (L.map .str)), .no]) := by
    have a : bNot (sB (s1 (gIsTy2 3) (sV 0))) [.val (.lst (L.map .str)), .no] = some (false, [.val (.lst (L.map .str)), .no]) := rfl
    unfold bOr
    rw [a]
    exact sB_of (s2_of (sComp_of rfl c (by decide)) rfl rfl)
  exact mir_rt (ρ0 := [_, _]) rfl (kS_nx (kIf_f t1 rfl) (kRet_of (s2_of (s1_of rfl ls) (sL_of (aC_of rfl rfl) ll) ee))) rfl
structure StOk (s : Stp) : Prop where
  nm : NmOk s.nm
  p : 0 < s.p
  l : 0 ≤ s.l
  rn : ∀ x ∈ s.rd, NmOk x
  nd : s.rd.Nodup
  rl : s.rd.length ≤ 4000
theorem step_init_eq {s : Stp} (h : StOk s) : m_Step_init [.slf 0 [], .val (.str s.nm), .val (.int s.p), .val (.int s.l), .val (.lst (s.rd.map .str))] = some (.non, [.str s.nm, .int s.p, .int s.l, .tup (s.rd.map .str)]) := by
  have q1 : m_is_name [.val (.str s.nm)] = some (.bl true, []) := h.nm
  have q2 := is_whole_int s.p
  have q3 := is_whole_int s.l
  have q4 := are_names_eq h.rn h.nd h.rl
  have t1 : bOr (bNot (sB (sCall 1 m_is_name (aC (sV 1) aN)))) (bOr (bNot (sB (sCall 1 m_is_whole (aC (sV 2) aN)))) (bOr (bNot (sB (sCall 1 m_is_whole (aC (sV 3) aN)))) (bNot (sB (sCall 1 m_are_names (aC (sV 4) aN)))))) [.slf 0 [], .val (.str s.nm), .val (.int s.p), .val (.int s.l), .val (.lst (s.rd.map .str))] =
      some (false, [.slf 0 [], .val (.str s.nm), .val (.int s.p), .val (.int s.l), .val (.lst (s.rd.map .str))]) := by
    simp only [bOr, bNot, sB, sCall, aC, aN, sV, List.getElem?_cons_zero, List.getElem?_cons_succ, List.map_cons, List.map_nil, List.length_cons, List.length_nil, Nat.zero_add, if_true, q1, q2, q3, q4, Bool.not_true]
  have t2 : bOr (sB (s2 gLt (sV 2) (sK (.int 1)))) (sB (s2 gLt (sV 3) (sK (.int 0)))) [.slf 0 [], .val (.str s.nm), .val (.int s.p), .val (.int s.l), .val (.lst (s.rd.map .str))] =
      some (false, [.slf 0 [], .val (.str s.nm), .val (.int s.p), .val (.int s.l), .val (.lst (s.rd.map .str))]) := by
    have e1 := gLt_f (a := s.p) (b := 1) (by have := h.p; omega)
    have e2 := gLt_f (a := s.l) (b := 0) (by have := h.l; omega)
    simp only [bOr, sB, s2, sV, sK, List.getElem?_cons_zero, List.getElem?_cons_succ, e1, e2]
  exact mir_nx (ρ0 := [_, _, _, _, _]) rfl (kS_nx (kIf_f t1 rfl) (kS_nx (kIf_f t2 rfl) (kS_nx rfl (kS_nx rfl (kS_nx rfl rfl))))) rfl
structure NtOk (ns : Nt) : Prop where
  ne : ns ≠ []
  st : ∀ s ∈ ns, StOk s
  nd : (ns.map (·.nm)).Nodup
  rd : ∀ s ∈ ns, ∀ x ∈ s.rd, x ∈ ns.map (·.nm)
  ln : ns.length ≤ 4000
end Toy

set_option Elab.async false
set_option linter.all false
set_option maxRecDepth 100000
set_option maxHeartbeats 8000000
namespace Toy
open PySem PySem.Spec PyProof.Rows L2 VS
theorem kS_rt {a b : SS} {ρ ρ1 : Rho} {x : D} (h : a ρ = some (.rt x, ρ1)) : kS a b ρ = some (.rt x, ρ1) := by
  unfold kS
  rw [h]
structure PaOk (ns : Nt) (P : List Nat) : Prop where
  nt : NtOk ns
  pi : ∀ i ∈ P, i < ns.length
  ne : P ≠ []
  st : ∀ j, j + 1 < P.length → ∃ s t : Stp, ns[atP P j]? = some s ∧ ns[atP P (j + 1)]? = some t ∧ s.nm ∈ t.rd
  ln : P.length ≤ 4000
def nmA (ns : Nt) (i : Nat) : Str := ((ns[i]?).map (·.nm)).getD Str.empty
theorem PaOk.at (h : PaOk ns P) {i : Nat} (hi : i ∈ P) : ∃ s, ns[i]? = some s ∧ nmA ns i = s.nm := by
  have q := h.pi i hi
  have e : ns[i]? = some ns[i] := by simp [q]
  exact ⟨ns[i], e, by simp [nmA, e]⟩
end Toy

set_option Elab.async false
set_option linter.all false
set_option maxRecDepth 100000
set_option maxHeartbeats 8000000
namespace Toy
open PySem PySem.Spec PyProof.Rows L2 VS
theorem kSet_to' {i : Nat} {e : SE} {ρ ρ1 ρ2 : Rho} {d : D} (h : e ρ = some (d, ρ1)) (h2 : ρ1.set i (.val d) = ρ2) : kSet i e ρ = some (.nx, ρ2) := by
  rw [kSet_of h, h2]
theorem callM {n : Nat} {m : Mir} {i : Nat} {a : SA} {ρ ρ1 ρ2 : Rho} {xs ys0 ys out : List D} {d : D} (h0 : conM ρ i = some ys0) (h : a ρ = some (xs, ρ1)) (hn : xs.length + 1 = n) (h1 : conM ρ1 i = some ys) (hm : m (.bor ys :: xs.map .val) = some (d, out)) (h2 : setM ρ1 i out = ρ2) :
    sCallM n m i a ρ = some (d, ρ2) := by
  unfold sCallM
  rw [h0, h]
  simp only [hn, if_true, h1, hm, h2]
end Toy

set_option Elab.async false
set_option linter.all false
set_option maxRecDepth 100000
set_option maxHeartbeats 8000000
namespace Toy
open PySem PySem.Spec PyProof.Rows L2 VS
theorem sm60 {i : Int} (h : -1000 ≤ i) (h2 : i ≤ 1000) : Sm 60 i := by
  have z : (1000 : Nat) < 2 ^ 60 := by decide
  unfold Sm
  omega
def alph : Str := "abcdefghijklmnopqrstuvwxyz"
def letter (j : Nat) : Str := match gIx (.str alph) (.int (j : Nat)) with
  | some (.str x) => x
  | _ => Str.empty
def wordsL : List Str := ["", "a", "zz", "step", "runner", "qqqqqqq"]
def isOk (x : Str) : Bool := match m_is_name [.val (.str x)] with
  | some (.bl true, []) => true
  | _ => false
theorem isOk_nm {x : Str} (h : isOk x = true) : NmOk x := by
  unfold isOk at h
  split at h
  · rename_i e
    exact e
  · cases h
theorem letter_ok : ((List.range 26).all fun j => match gIx (.str alph) (.int (j : Nat)) with | some (.str _) => true | _ => false) = true := by decide +kernel
theorem names_ok : (wordsL.all fun w => (List.range 26).all fun j => isOk (w ++ letter j)) = true := by decide +kernel
theorem words_ln : (wordsL.all fun w => (List.range 26).all fun j => decide (w.length + (letter j).length ≤ LN)) = true := by decide +kernel
def nmN (w : Str) (f i : Nat) : Str := w ++ letter ((f + 3 * i) % 26)
theorem names_nd : (wordsL.all fun w => (List.range 26).all fun f => decide ((List.range 4).map (nmN w f)).Nodup) = true := by decide +kernel
theorem letter_eq {j : Nat} (h : j < 26) : gIx (.str alph) (.int (j : Nat)) = some (.str (letter j)) := by
  have q := List.all_eq_true.mp letter_ok j (List.mem_range.mpr h)
  split at q
  · rename_i x e
    rw [e]
    unfold letter
    rw [e]
  · cases q
end Toy

set_option Elab.async false
set_option linter.all false
set_option maxRecDepth 100000
set_option maxHeartbeats 2000000
namespace Toy
open PySem PySem.Spec PyProof.Rows L2 VS
section
variable {a b : SX} {t : SB} {se : SE} {ρ ρ1 ρ2 : Rho} {k n : Nat} {d : D} {r : Option Rz} {o : List D}
theorem xS_xc (h : a ρ = some (.xc k d ρ1)) : xS a b ρ = some (.xc k d ρ1) := by unfold xS; rw [h]
theorem xS_nx (h : a ρ = some (.go .nx ρ1)) (h2 : b ρ1 = r) : xS a b ρ = r := by unfold xS; rw [h]; exact h2
theorem xIf_t (h : t ρ = some (true, ρ1)) (h2 : a ρ1 = r) : xIf t a b ρ = r := by unfold xIf; rw [h]; exact h2
theorem xIf_f (h : t ρ = some (false, ρ1)) (h2 : b ρ1 = r) : xIf t a b ρ = r := by unfold xIf; rw [h]; exact h2
theorem xRaise_of (h : se ρ = some (d, ρ1)) : xRaise k se ρ = some (.xc k d ρ1) := by unfold xRaise; rw [h]
theorem mirX_xc {s : SX} {sl : List Sl} (h : s (sl ++ List.replicate (n - sl.length) .no) = some (.xc k d ρ)) : mirX n s sl = some (.xc k d) := by unfold mirX; rw [h]
theorem bOr_t02 {a b : SB} (h : a ρ = some (true, ρ1)) : bOr a b ρ = some (true, ρ1) := by unfold bOr; rw [h]
theorem bOr_f02 {a b : SB} {q : Option (Bool × Rho)} (h : a ρ = some (false, ρ1)) (h2 : b ρ1 = q) : bOr a b ρ = q := by unfold bOr; rw [h]; exact h2
theorem bNot_of {a : SB} {v : Bool} (h : a ρ = some (v, ρ1)) : bNot a ρ = some (!v, ρ1) := by unfold bNot; rw [h]
theorem sU_02 {s : SE} (h : s ρ = some (d, ρ1)) : sU s ρ = some (unD d, ρ1) := by unfold sU; simp only [h]
end
section
variable {e0 e1 e2 e3 : D}
abbrev rS (e0 e1 e2 e3 : D) : Rho := [.slf 0 [], .val e0, .val e1, .val e2, .val e3]
theorem t_name {b : Bool} (h : m_is_name [.val (unD e0)] = some (.bl b, [])) : bNot (sB (sCall 1 m_is_name (aC (sU (sV 1)) aN))) (rS e0 e1 e2 e3) = some (!b, rS e0 e1 e2 e3) := bNot_of (sB_of (sCall_of (aC_of (sU_02 rfl) rfl) rfl h))
theorem t_w1 {b : Bool} (h : m_is_whole [.val (unD e1)] = some (.bl b, [])) : bNot (sB (sCall 1 m_is_whole (aC (sU (sV 2)) aN))) (rS e0 e1 e2 e3) = some (!b, rS e0 e1 e2 e3) := bNot_of (sB_of (sCall_of (aC_of (sU_02 rfl) rfl) rfl h))
theorem t_w2 {b : Bool} (h : m_is_whole [.val (unD e2)] = some (.bl b, [])) : bNot (sB (sCall 1 m_is_whole (aC (sU (sV 3)) aN))) (rS e0 e1 e2 e3) = some (!b, rS e0 e1 e2 e3) := bNot_of (sB_of (sCall_of (aC_of (sU_02 rfl) rfl) rfl h))
theorem t_rd {b : Bool} (h : m_are_names [.val (unD e3)] = some (.bl b, [])) : bNot (sB (sCall 1 m_are_names (aC (sU (sV 4)) aN))) (rS e0 e1 e2 e3) = some (!b, rS e0 e1 e2 e3) := bNot_of (sB_of (sCall_of (aC_of (sU_02 rfl) rfl) rfl h))
theorem t_raise : xRaise 1 (sL gTup (aC (sV 1) (aC (sV 2) (aC (sV 3) (aC (sV 4) aN))))) (rS e0 e1 e2 e3) = some (.xc 1 (.tup [e0, e1, e2, e3]) (rS e0 e1 e2 e3)) := xRaise_of (sL_of (aC_of rfl (aC_of rfl (aC_of rfl (aC_of rfl rfl)))) rfl)
abbrev MxBad (e0 e1 e2 e3 : D) : Prop := mx_Step_init [.slf 0 [], .val e0, .val e1, .val e2, .val e3] = some (.xc 1 (.tup [e0, e1, e2, e3]))
theorem bad0 (h : m_is_name [.val (unD e0)] = some (.bl false, [])) : MxBad e0 e1 e2 e3 := mirX_xc (xS_xc (xIf_t (bOr_t02 (t_name h)) t_raise))
theorem bad1 (h0 : m_is_name [.val (unD e0)] = some (.bl true, [])) (h : m_is_whole [.val (unD e1)] = some (.bl false, [])) : MxBad e0 e1 e2 e3 := mirX_xc (xS_xc (xIf_t (bOr_f02 (t_name h0) (bOr_t02 (t_w1 h))) t_raise))
theorem bad2 (h0 : m_is_name [.val (unD e0)] = some (.bl true, [])) (h1 : m_is_whole [.val (unD e1)] = some (.bl true, [])) (h : m_is_whole [.val (unD e2)] = some (.bl false, [])) : MxBad e0 e1 e2 e3 :=
  mirX_xc (xS_xc (xIf_t (bOr_f02 (t_name h0) (bOr_f02 (t_w1 h1) (bOr_t02 (t_w2 h)))) t_raise))
theorem bad3 (h0 : m_is_name [.val (unD e0)] = some (.bl true, [])) (h1 : m_is_whole [.val (unD e1)] = some (.bl true, [])) (h2 : m_is_whole [.val (unD e2)] = some (.bl true, [])) (h : m_are_names [.val (unD e3)] = some (.bl false, [])) : MxBad e0 e1 e2 e3 :=
  mirX_xc (xS_xc (xIf_t (bOr_f02 (t_name h0) (bOr_f02 (t_w1 h1) (bOr_f02 (t_w2 h2) (t_rd h)))) t_raise))
theorem bad4 {p q : Int} (h0 : m_is_name [.val (unD e0)] = some (.bl true, [])) (h1 : unD e1 = .int p) (h2 : unD e2 = .int q) {b : Bool} (h3 : m_are_names [.val (unD e3)] = some (.bl b, [])) (h : p < 1 ∨ q < 0) : MxBad e0 e1 e2 e3 := by
  have w : ∀ i : Int, m_is_whole [.val (.int i)] = some (.bl true, []) := fun i => rfl
  cases b with
  | false => exact bad3 h0 (by rw [h1]; exact w p) (by rw [h2]; exact w q) h3
  | true =>
    have g : ∀ i j : Int, gLt (.int i) (.int j) = some (.bl (decide (i < j))) := fun i j => rfl
    have a1 : (sU (sV 2)) (rS e0 e1 e2 e3) = some (.int p, rS e0 e1 e2 e3) := h1 ▸ sU_02 rfl
    have a2 : (sU (sV 3)) (rS e0 e1 e2 e3) = some (.int q, rS e0 e1 e2 e3) := h2 ▸ sU_02 rfl
    refine mirX_xc (xS_nx (xIf_f (bOr_f02 (t_name h0) (bOr_f02 (t_w1 (by rw [h1]; exact w p)) (bOr_f02 (t_w2 (by rw [h2]; exact w q)) (t_rd h3)))) rfl) (xS_xc (xIf_t (ρ1 := rS e0 e1 e2 e3) ?_ t_raise)))
    by_cases hp : p < 1
    · exact bOr_t02 (sB_of (s2_of a1 rfl (by rw [g, decide_eq_true hp])))
    · exact bOr_f02 (sB_of (s2_of a1 rfl (by rw [g, decide_eq_false hp]))) (sB_of (s2_of a2 rfl (by rw [g, decide_eq_true (h.resolve_left hp)])))
end
end Toy

set_option Elab.async false
set_option linter.all false
set_option maxRecDepth 100000
set_option maxHeartbeats 2000000
namespace Toy
open PySem PySem.Spec PyProof.Rows L2 VS
theorem toPs_strs : ∀ l : List Str, toPs (l.map .str) = some (l.map .str)
  | [] => rfl
  | a :: r => by
    show (match toP (.str a), toPs (r.map .str) with | some x, some xs => some (x :: xs) | _, _ => none) = _
    rw [toPs_strs r]; rfl
theorem lay_strs : ∀ l : List Str, (∀ x ∈ l, PyData.strOk x = true) → PyData.canLayAll0 (l.map .str) = true
  | [], _ => rfl
  | a :: r, h => by
    show (PyData.canLay0 (.str a) && PyData.canLayAll0 (r.map .str)) = true
    rw [lay_strs r fun x hx => h x (List.mem_cons_of_mem _ hx)]
    have := h a List.mem_cons_self
    show (PyData.strOk a && true) = true
    rw [this]; rfl
theorem loop_nil {L x : Str} : ∀ {ds : List D} {ρ2 : Rho}, cLoop (.nm 1) (sB (s2 gNotIn (sV 1) (sK (.str L)))) (sV 1) ds [.val (.str x), .no] = some ([], ρ2) → ∀ d ∈ ds, inB d (.str L) = some true
  | [], _, _, d, hd => by cases hd
  | d :: r, ρ2, h, d', hd => by
    have tv : turnC (.nm 1) (sB (s2 gNotIn (sV 1) (sK (.str L)))) (sV 1) d [.val (.str x), .no] = match inB d (.str L) with
        | some true => some (none, [.val (.str x), .no])
        | some false => some (some d, [.val (.str x), .no])
        | none => none := by
      cases e : inB d (.str L) with
      | none =>
        simp only [turnC, okT, Tg.ix, List.all_cons, List.all_nil, List.getElem?_cons_succ, List.getElem?_cons_zero, Bool.and_true, if_true, blkR, wipeR, toB, List.map_cons, List.map_nil, tgt, List.set_cons_succ, List.set_cons_zero, sB, s2, sV, sK, gNotIn, e, Option.map_none]
      | some b =>
        cases b <;> simp only [turnC, okT, Tg.ix, List.all_cons, List.all_nil, List.getElem?_cons_succ, List.getElem?_cons_zero, Bool.and_true, if_true, blkR, wipeR, toB, List.map_cons, List.map_nil, tgt, List.set_cons_succ, List.set_cons_zero, sB, s2, sV, sK, gNotIn, e, Option.map_some, Bool.not_true, Bool.not_false, restore]
    unfold cLoop at h
    rw [tv] at h
    cases e : inB d (.str L) with
    | none => rw [e] at h; cases h
    | some b =>
      rw [e] at h
      cases b with
      | true =>
        dsimp only at h
        rcases List.mem_cons.mp hd with q | q
        · rw [q]; exact e
        · exact loop_nil h d' q
      | false =>
        dsimp only at h
        split at h
        · cases h
        · cases h
theorem nm_str {x : Str} (h : NmOk x) : PyData.strOk x = true := by
  unfold NmOk m_is_name mir b_is_name at h
  have t : ∃ o, bOr (bNot (sB (s1 (gIsTy2 2) (sV 0)))) (bNot (sB (sCh gLe gLe (sK (.int 1)) (sL gLen (aC (sV 0) aN)) (sK (.int 8))))) [.val (.str x), .no] = o ∧ (o = none ∨ ∃ b, o = some (b, [.val (.str x), .no])) := by
    refine ⟨_, rfl, ?_⟩
    have a : bNot (sB (s1 (gIsTy2 2) (sV 0))) [.val (.str x), .no] = some (false, [.val (.str x), .no]) := rfl
    unfold bOr
    rw [a]
    dsimp only
    by_cases z : x.length ≤ LN
    · right
      have g : gLen [.str x] = some (.int x.length) := if_pos z
      by_cases y : (1 : Int) ≤ x.length
      · refine ⟨!decide ((x.length : Int) ≤ 8), ?_⟩
        simp only [bNot, sB, sCh, sK, sL, aC, aN, sV, List.getElem?_cons_zero, g, gLe_int, decide_eq_true y]
      · refine ⟨true, ?_⟩
        simp only [bNot, sB, sCh, sK, sL, aC, aN, sV, List.getElem?_cons_zero, g, gLe_int, decide_eq_false y, Bool.not_false]
    · left
      have g : gLen [.str x] = none := if_neg z
      simp only [bNot, sB, sCh, sK, sL, aC, aN, sV, List.getElem?_cons_zero, g]
  obtain ⟨o, t1, t2⟩ := t
  have h : (match kS (kIf (bOr (bNot (sB (s1 (gIsTy2 2) (sV 0)))) (bNot (sB (sCh gLe gLe (sK (.int 1)) (sL gLen (aC (sV 0) aN)) (sK (.int 8)))))) (kRet (sK (.bl false))) kN) (kRet (s2 gEqL (sComp (iStr (sV 0)) (.nm 1) (sB (s2 gNotIn (sV 1) (sK (.str "abcdefghijklmnopqrstuvwxyz")))) (sV 1)) (sL VS.gLst aN))) [.val (.str x), .no] with
    | some (.nx, ρ) => match outOf [.val (.str x)] ρ with
      | some o => some (D.non, o)
      | none => none
    | some (.rt d, ρ) => match outOf [.val (.str x)] ρ with
      | some o => some (d, o)
      | none => none
    | _ => none) = some (.bl true, []) := h
  unfold kS kIf at h
  rw [t1] at h
  rcases t2 with rfl | ⟨b, rfl⟩
  · cases h
  · cases b with
    | true =>
      have e : kRet (sK (.bl false)) [.val (.str x), .no] = some (.rt (.bl false), [.val (.str x), .no]) := rfl
      simp only [e] at h
      cases h
    | false =>
      have it : iStr (sV 0) [.val (.str x), .no] = some (chars x, [.val (.str x), .no]) := rfl
      have g0 : VS.gLst [] = some (.lst []) := if_pos (Nat.zero_le _)
      have ex : ∃ ρ2, cLoop (.nm 1) (sB (s2 gNotIn (sV 1) (sK (.str "abcdefghijklmnopqrstuvwxyz")))) (sV 1) (chars x) [.val (.str x), .no] = some ([], ρ2) := by
        cases e : cLoop (.nm 1) (sB (s2 gNotIn (sV 1) (sK (.str "abcdefghijklmnopqrstuvwxyz")))) (sV 1) (chars x) [.val (.str x), .no] with
        | none =>
          have k : sComp (iStr (sV 0)) (.nm 1) (sB (s2 gNotIn (sV 1) (sK (.str "abcdefghijklmnopqrstuvwxyz")))) (sV 1) [.val (.str x), .no] = none := by
            unfold sComp
            rw [it]
            dsimp only
            rw [e]
          simp only [kN, kRet, s2, k] at h
          cases h
        | some q =>
          obtain ⟨out, ρ2⟩ := q
          by_cases z : out.length ≤ LN
          · have k : sComp (iStr (sV 0)) (.nm 1) (sB (s2 gNotIn (sV 1) (sK (.str "abcdefghijklmnopqrstuvwxyz")))) (sV 1) [.val (.str x), .no] = some (.lst out, ρ2) := by
              unfold sComp
              rw [it]
              dsimp only
              rw [e]
              dsimp only
              rw [if_pos z]
            have k2 : s2 gEqL (sComp (iStr (sV 0)) (.nm 1) (sB (s2 gNotIn (sV 1) (sK (.str "abcdefghijklmnopqrstuvwxyz")))) (sV 1)) (sL VS.gLst aN) [.val (.str x), .no] = some (.bl out.isEmpty, ρ2) := s2_of k (sL_of rfl g0) rfl
            have k3 : kRet (s2 gEqL (sComp (iStr (sV 0)) (.nm 1) (sB (s2 gNotIn (sV 1) (sK (.str "abcdefghijklmnopqrstuvwxyz")))) (sV 1)) (sL VS.gLst aN)) [.val (.str x), .no] = some (.rt (.bl out.isEmpty), ρ2) := kRet_of k2
            simp only [kN, k3] at h
            have h : (some (D.bl out.isEmpty, ([] : List D))) = some (.bl true, []) := h
            have h := D.bl.inj (Prod.mk.inj (Option.some.inj h)).1
            exact ⟨ρ2, by rw [List.isEmpty_iff.mp h]⟩
          · have k : sComp (iStr (sV 0)) (.nm 1) (sB (s2 gNotIn (sV 1) (sK (.str "abcdefghijklmnopqrstuvwxyz")))) (sV 1) [.val (.str x), .no] = none := by
              unfold sComp
              rw [it]
              dsimp only
              rw [e]
              dsimp only
              rw [if_neg z]
            simp only [kN, kRet, s2, k] at h
            cases h
      obtain ⟨ρ2, hc⟩ := ex
      have all := loop_nil hc
      unfold PyData.strOk
      rw [← Array.all_toList, List.all_eq_true]
      intro c hcm
      have q := all (.str ⟨#[c]⟩) (List.mem_map.mpr ⟨c, hcm, rfl⟩)
      have q : some (decide (c ∈ ("abcdefghijklmnopqrstuvwxyz" : Str).cps.toList)) = some true := q
      have q := of_decide_eq_true (Option.some.inj q)
      have lim : (("abcdefghijklmnopqrstuvwxyz" : Str).cps.toList.all fun c => decide (c < 0x110000)) = true := by decide +kernel
      exact List.all_eq_true.mp lim c q
theorem depth_strs : ∀ l : List Str, PyData.depthAll (l.map .str) ≤ 1
  | [] => by simp [PyData.depthAll]
  | a :: r => by
    have := depth_strs r
    rw [List.map_cons, PyData.depthAll]
    simp only [PyData.depth]
    omega
theorem nm_len {x : Str} (h : NmOk x) : x.length ≤ 8 := by
  by_cases z : x.length ≤ 8
  · exact z
  · exfalso
    unfold NmOk m_is_name mir b_is_name at h
    have a : bNot (sB (s1 (gIsTy2 2) (sV 0))) [.val (.str x), .no] = some (false, [.val (.str x), .no]) := rfl
    by_cases y : x.length ≤ LN
    · have g : gLen [.str x] = some (.int x.length) := if_pos y
      have t : bOr (bNot (sB (s1 (gIsTy2 2) (sV 0)))) (bNot (sB (sCh gLe gLe (sK (.int 1)) (sL gLen (aC (sV 0) aN)) (sK (.int 8))))) [.val (.str x), .no] = some (true, [.val (.str x), .no]) := by
        unfold bOr
        rw [a]
        dsimp only
        have l1 : gLe (.int 1) (.int (x.length : Int)) = some (.bl true) := by rw [gLe_int, decide_eq_true (by omega)]
        have l2 : gLe (.int (x.length : Int)) (.int 8) = some (.bl false) := by rw [gLe_int, decide_eq_false (by omega)]
        simp only [bNot, sB, sCh, sK, sL, aC, aN, sV, List.getElem?_cons_zero, g, l1, l2, Bool.not_false]
      have k : kIf (bOr (bNot (sB (s1 (gIsTy2 2) (sV 0)))) (bNot (sB (sCh gLe gLe (sK (.int 1)) (sL gLen (aC (sV 0) aN)) (sK (.int 8)))))) (kRet (sK (.bl false))) kN [.val (.str x), .no] = some (.rt (.bl false), [.val (.str x), .no]) := by
        unfold kIf
        rw [t]
        rfl
      have e : ([.val (.str x)] ++ List.replicate (2 - [Sl.val (.str x)].length) .no : Rho) = [.val (.str x), .no] := rfl
      rw [e] at h
      unfold kS at h
      rw [k] at h
      have h : some (D.bl false, ([] : List D)) = some (.bl true, []) := h
      cases h
    · have g : gLen [.str x] = none := if_neg y
      have t : bOr (bNot (sB (s1 (gIsTy2 2) (sV 0)))) (bNot (sB (sCh gLe gLe (sK (.int 1)) (sL gLen (aC (sV 0) aN)) (sK (.int 8))))) [.val (.str x), .no] = none := by
        unfold bOr
        rw [a]
        simp only [bNot, sB, sCh, sK, sL, aC, aN, sV, List.getElem?_cons_zero, g]
      have k : kIf (bOr (bNot (sB (s1 (gIsTy2 2) (sV 0)))) (bNot (sB (sCh gLe gLe (sK (.int 1)) (sL gLen (aC (sV 0) aN)) (sK (.int 8)))))) (kRet (sK (.bl false))) kN [.val (.str x), .no] = none := by
        unfold kIf
        rw [t]
      have e : ([.val (.str x)] ++ List.replicate (2 - [Sl.val (.str x)].length) .no : Rho) = [.val (.str x), .no] := rfl
      rw [e] at h
      unfold kS at h
      rw [k] at h
      cases h
theorem nm_text {x : Str} (h : NmOk x) : (reprText x).length ≤ 82 := by
  have a := nm_str h
  unfold PyData.strOk at a
  rw [← Array.all_toList, List.all_eq_true] at a
  have := PySem.StrLaws.reprText_len x fun c hc => Nat.lt_trans (of_decide_eq_true (a c hc)) (by decide)
  have := nm_len h
  omega
theorem more_ok : NmOk "more" := by unfold NmOk; kernel_rfl
theorem turnC_f02 {t : Tg} {tt : SB} {e : SE} {d : D} {ρ ρ1 ρ2 : Rho} (h : okT t.ix ρ = true) (h1 : tgt t d (blkR t.ix ρ) = some ρ1) (h2 : tt ρ1 = some (false, ρ2)) (h3 : restore ρ ρ2 = some ρ) : turnC t tt e d ρ = some (none, ρ) := by
  unfold turnC
  rw [if_pos h, h1]
  simp only [h2, h3, Option.map_some]
theorem turnC_t02 {t : Tg} {tt : SB} {e : SE} {d x : D} {ρ ρ1 ρ2 ρ3 : Rho} (h : okT t.ix ρ = true) (h1 : tgt t d (blkR t.ix ρ) = some ρ1) (h2 : tt ρ1 = some (true, ρ2)) (h4 : e ρ2 = some (x, ρ3)) (h3 : restore ρ ρ3 = some ρ) : turnC t tt e d ρ = some (some x, ρ) := by
  unfold turnC
  rw [if_pos h, h1]
  simp only [h2, h4, h3, Option.map_some]
theorem turnC_m02 {t : Tg} {e : SE} {d x : D} {ρ ρ1 ρ3 : Rho} (h : okT t.ix ρ = true) (h1 : tgt t d (blkR t.ix ρ) = some ρ1) (h4 : e ρ1 = some (x, ρ3)) (h3 : restore ρ ρ3 = some ρ) : turnC t bYes e d ρ = some (some x, ρ) := by
  unfold turnC
  rw [if_pos h, h1]
  simp only [bYes, h4, h3, Option.map_some]
theorem bad_names {l : List D} {f : D → Bool} (h : ∀ x ∈ l, m_is_name [.val x] = some (.bl (f x), [])) :
    cLoop (.nm 1) (bNot (sB (sCall 1 m_is_name (aC (sV 1) aN)))) (sV 1) l [.val (.lst l), .no] = some (l.filterMap fun x => if f x then none else some x, [.val (.lst l), .no]) := by
  have c := cLoop_flt (t := .nm 1) (tt := bNot (sB (sCall 1 m_is_name (aC (sV 1) aN)))) (e := sV 1) (ρ := [.val (.lst l), .no]) (g := fun d : D => d) (f := fun x => if f x then none else some x) (ds := l) fun x hx => by
    have t : bNot (sB (sCall 1 m_is_name (aC (sV 1) aN))) [.val (.lst l), .val x] = some (!f x, [.val (.lst l), .val x]) := bNot_of (sB_of (sCall_of (aC_of rfl rfl) rfl (h x hx)))
    cases e : f x with
    | true => rw [e] at t; exact turnC_f02 rfl rfl t rfl
    | false => rw [e] at t; exact turnC_t02 rfl rfl t rfl rfl
  rw [List.map_id'] at c
  exact c
theorem are_bad {l : List D} {f : D → Bool} (h : ∀ x ∈ l, m_is_name [.val x] = some (.bl (f x), [])) (hl : l.length ≤ 4000) {x : D} (hx : l.filterMap (fun x => if f x then none else some x) = [x]) (hn : gNe (.lst [x]) (.lst []) = some (.bl true)) : m_are_names [.val (.lst l)] = some (.bl false, []) := by
  have c := bad_names h
  rw [hx] at c
  have t1 : bOr (bNot (sB (s1 (gIsTy2 3) (sV 0)))) (sB (s2 gNe (sComp (iSeq (sV 0)) (.nm 1) (bNot (sB (sCall 1 m_is_name (aC (sV 1) aN)))) (sV 1)) (sL VS.gLst aN))) [.val (.lst l), .no] = some (true, [.val (.lst l), .no]) := by
    have a : bNot (sB (s1 (gIsTy2 3) (sV 0))) [.val (.lst l), .no] = some (false, [.val (.lst l), .no]) := rfl
    unfold bOr
    rw [a]
    exact sB_of (s2_of (sComp_of rfl c (show 1 ≤ LN by decide)) rfl hn)
  exact mir_rt (ρ0 := [_, _]) rfl (kS_rt (kIf_t t1 rfl)) rfl
theorem are_strs {L : List Str} (h : ∀ x ∈ L, NmOk x) (hl : L.length ≤ 4000) : m_are_names [.val (.lst (L.map .str))] = some (.bl (decide (distinct L = L.length)), []) := by
  have c := bad_names (l := L.map .str) (f := fun _ => true) fun x hx => by
    obtain ⟨y, hy, rfl⟩ := List.mem_map.mp hx
    exact h y hy
  have e0 : (L.map D.str).filterMap (fun x => if true = true then none else some x) = [] := by simp
  rw [e0] at c
  have ls : gLenSet (.lst (L.map .str)) = some (.int (distinct L : Nat)) := by
    unfold gLenSet
    simp only [strs_map, hl, if_true]
  have ll : gLen [.lst (L.map .str)] = some (.int (L.length : Nat)) := by
    rw [gLen_lst, List.length_map]
  have ee : gEq (.int (distinct L : Nat)) (.int (L.length : Nat)) = some (.bl (decide (distinct L = L.length))) := by
    rw [gEq_int]
    congr 2
    rw [decide_eq_decide]
    omega
  have t1 : bOr (bNot (sB (s1 (gIsTy2 3) (sV 0)))) (sB (s2 gNe (sComp (iSeq (sV 0)) (.nm 1) (bNot (sB (sCall 1 m_is_name (aC (sV 1) aN)))) (sV 1)) (sL VS.gLst aN))) [.val (.lst (L.map .str)), .no] = some (false, [.val (.lst (L.map .str)), .no]) := by
    have a : bNot (sB (s1 (gIsTy2 3) (sV 0))) [.val (.lst (L.map .str)), .no] = some (false, [.val (.lst (L.map .str)), .no]) := rfl
    unfold bOr
    rw [a]
    exact sB_of (s2_of (sComp_of rfl c (by decide)) rfl rfl)
  exact mir_rt (ρ0 := [_, _]) rfl (kS_nx (kIf_f t1 rfl) (kRet_of (s2_of (s1_of rfl ls) (sL_of (aC_of rfl rfl) ll) ee))) rfl
end Toy

set_option Elab.async false
set_option linter.all false
set_option maxRecDepth 100000
set_option maxHeartbeats 2000000
namespace Toy
open PySem PySem.Spec PyProof.Rows L2 VS
theorem text_le : ∀ (ts : List Str) (k : Nat) (acc : Str), (textFrom k acc ts).length ≤ acc.length + piled ts
  | [], k, acc => Nat.le_add_right _ _
  | t :: r, k, acc => by
    have ih := text_le r (k + 1) (acc ++ (if k > 0 then ", " else "" : String) ++ t)
    have e : (acc ++ (if k > 0 then ", " else "" : String) ++ t).length = acc.length + (if k > 0 then 2 else 0) + t.length := by
      rw [strLen_append, strLen_append]
      split <;> rfl
    have d : (if k > 0 then 2 else 0 : Nat) ≤ 2 := by split <;> omega
    rw [piled_cons]
    rw [e] at ih
    show (textFrom (k + 1) _ r).length ≤ _
    omega
theorem list_le (ts : List Str) : (listText ts).length ≤ piled ts + 2 := by
  have := text_le ts 0 "["
  unfold listText
  rw [strLen_append]
  have a : ((("[" : String) : Str)).length = 1 := rfl
  have b : ((("]" : String) : Str)).length = 1 := rfl
  omega
theorem tup_le (ts : List Str) : (tupleText ts).length ≤ piled ts + 3 := by
  unfold tupleText
  rw [strLen_append, strLen_append]
  have a : ((("(" : String) : Str)).length = 1 := rfl
  have c : (((if ts.length == 1 then ",)" else ")" : String) : Str)).length ≤ 2 := by split <;> decide
  have b : (Str.join ", " ts).length ≤ piled ts := by
    by_cases z : ts = []
    · subst z; exact Nat.le_refl _
    · have := join_length_add ts z
      omega
  omega
theorem piled_le {α : Type} {f : α → Str} {n : Nat} : ∀ {l : List α}, (∀ a ∈ l, (f a).length ≤ n) → piled (l.map f) ≤ l.length * (n + 2)
  | [], _ => by simp [piled]
  | a :: l, h => by
    have ih := piled_le (f := f) (n := n) (l := l) fun x hx => h x (List.mem_cons_of_mem _ hx)
    have := h a List.mem_cons_self
    rw [List.map_cons, piled_cons, List.length_cons, Nat.add_mul]
    omega

mutual
def noLst : D → Bool
  | .non => true
  | .bl _ => true
  | .int _ => true
  | .str _ => true
  | .tup ds => noLsts ds
  | .dct false [] [] => true
  | _ => false
def noLsts : List D → Bool
  | [] => true
  | d :: ds => noLst d && noLsts ds
end
mutual
inductive Mo1 : D → D → Prop
  | same {d : D} : noLst d = true → Mo1 d d
  | lst {ds es : List D} : Mo1s ds es → Mo1 (.lst ds) (.lst es)
  | more {ds es : List D} : Mo1s ds es → Mo1 (.lst ds) (.lst (es ++ [.str "more"]))
inductive Mo1s : List D → List D → Prop
  | nil : Mo1s [] []
  | cons {d e : D} {ds es : List D} : Mo1 d e → Mo1s ds es → Mo1s (d :: ds) (e :: es)
end
mutual
def okD : D → Bool
  | .lst ds => okDs ds
  | d => noLst d
def okDs : List D → Bool
  | [] => true
  | d :: ds => okD d && okDs ds
end
section
variable {G : Gx} {F F' : Hp} {p : Addr} {us : List V}
mutual
theorem Rep.noL (hF : ∀ b o, F b = some o → b ≠ p → F' b = some o) (h1 : F p = some (.lst us)) : ∀ {v : V} {d : D}, Rep G F v d → noLst d = true → Rep G F' v d
  | _, _, .non, _ => .non
  | _, _, .bl b, _ => .bl b
  | _, _, .int i, _ => .int i
  | _, _, .str x, _ => .str x
  | _, _, .adr a, z => by simp [noLst] at z
  | _, _, .lst _ _, z => by simp [noLst] at z
  | _, _, .scr _ _, z => by simp [noLst] at z
  | _, _, .tup h r, z => .tup (hF _ _ h fun e => by subst e; rw [h1] at h; cases h) (Reps.noL hF h1 r (by simpa [noLst] using z))
  | _, _, .ins _ _ _, z => by simp [noLst] at z
  | _, _, .dct (b := b) (ks := ks) (ds := ds) h r, z => by
    cases b with
    | true => simp [noLst] at z
    | false =>
      obtain ⟨kvs, g1, g2, g3, g4⟩ := h
      cases ks with
      | cons _ _ => simp [noLst] at z
      | nil =>
        cases ds with
        | cons _ _ => simp [noLst] at z
        | nil => exact Rep.dct (b := false) ⟨kvs, hF _ _ g1 fun e => (by subst e; rw [h1] at g1; cases g1), g2, g3, g4⟩ (Reps.noL hF h1 r (by simp [noLsts]))
  | _, _, .exc _ _ _, z => by simp [noLst] at z
  | _, _, .bth _, z => by simp [noLst] at z
theorem Reps.noL (hF : ∀ b o, F b = some o → b ≠ p → F' b = some o) (h1 : F p = some (.lst us)) : ∀ {vs : List V} {ds : List D}, Reps G F vs ds → noLsts ds = true → Reps G F' vs ds
  | _, _, .nil, _ => .nil
  | _, _, .cons h r, z => by
    simp only [noLsts, Bool.and_eq_true] at z
    exact .cons (Rep.noL hF h1 h z.1) (Reps.noL hF h1 r z.2)
end
mutual
theorem Rep.more (hF : ∀ b o, F b = some o → b ≠ p → F' b = some o) (h1 : F p = some (.lst us)) (h2 : F' p = some (.lst (us ++ [.str "more"]))) : ∀ {v : V} {d : D}, Rep G F v d → okD d = true → ∃ e, Rep G F' v e ∧ Mo1 d e
  | _, _, .lst (a := a) h r, z => by
    obtain ⟨es, r', m⟩ := Reps.more hF h1 h2 r (by simpa [okD] using z)
    by_cases e : a = p
    · subst e
      rw [h1] at h
      cases h
      exact ⟨_, .lst h2 (r'.append (.one (.str _))), .more m⟩
    · exact ⟨_, .lst (hF _ _ h e) r', .lst m⟩
  | _, _, .non, _ => ⟨_, .non, .same (by simp [noLst])⟩
  | _, _, .bl b, _ => ⟨_, .bl b, .same (by simp [noLst])⟩
  | _, _, .int i, _ => ⟨_, .int i, .same (by simp [noLst])⟩
  | _, _, .str x, _ => ⟨_, .str x, .same (by simp [noLst])⟩
  | _, _, .adr a, z => by simp [okD, noLst] at z
  | _, _, .scr _ _, z => by simp [okD, noLst] at z
  | _, _, .tup h r, z => ⟨_, Rep.noL hF h1 (.tup h r) (by simpa [okD] using z), .same (by simpa [okD] using z)⟩
  | _, _, .ins _ _ _, z => by simp [okD, noLst] at z
  | _, _, .dct h r, z => ⟨_, Rep.noL hF h1 (.dct h r) (by simpa [okD] using z), .same (by simpa [okD] using z)⟩
  | _, _, .exc _ _ _, z => by simp [okD, noLst] at z
  | _, _, .bth _, z => by simp [okD, noLst] at z
theorem Reps.more (hF : ∀ b o, F b = some o → b ≠ p → F' b = some o) (h1 : F p = some (.lst us)) (h2 : F' p = some (.lst (us ++ [.str "more"]))) : ∀ {vs : List V} {ds : List D}, Reps G F vs ds → okDs ds = true → ∃ es, Reps G F' vs es ∧ Mo1s ds es
  | _, _, .nil, _ => ⟨[], .nil, .nil⟩
  | _, _, .cons h r, z => by
    simp only [okDs, Bool.and_eq_true] at z
    obtain ⟨e, a1, a2⟩ := Rep.more hF h1 h2 h z.1
    obtain ⟨es, b1, b2⟩ := Reps.more hF h1 h2 r z.2
    exact ⟨_, .cons a1 b1, .cons a2 b2⟩
end
end
def Sz0 (x : D) : Prop := noLst x = true ∧ ∃ t, shD (fun _ => none) x = some t ∧ t.length ≤ 90 ∧ dpD x ≤ 2
def Sz1 (n : Nat) (x : D) : Prop := Sz0 x ∨ ∃ l, x = .lst l ∧ l.length ≤ n ∧ ∀ y ∈ l, Sz0 y
def SzT (x : D) : Prop := noLst x = true ∧ ∃ t, shD (fun _ => none) x = some t ∧ t.length ≤ 400 ∧ dpD x ≤ 2
def Sz2 (n : Nat) (x : D) : Prop := SzT x ∨ ∃ l, x = .lst l ∧ l.length ≤ n ∧ ∀ y ∈ l, Sz1 n y
theorem sz0_more : Sz0 (.str "more") := ⟨by simp [noLst], "'more'", by simp only [shD]; decide +kernel, by decide +kernel, by simp [dpD]⟩
theorem Mo1.no {d e : D} (m : Mo1 d e) (h : noLst d = true) : e = d := by
  cases m with
  | same _ => rfl
  | lst _ => simp [noLst] at h
  | more _ => simp [noLst] at h
theorem Mo1s.mem {ds es : List D} (m : Mo1s ds es) : es.length = ds.length ∧ ∀ e ∈ es, ∃ d ∈ ds, Mo1 d e := by
  induction es generalizing ds with
  | nil => cases m; exact ⟨rfl, fun e h => by cases h⟩
  | cons e es ih =>
    cases m with
    | cons a b =>
      obtain ⟨c, d⟩ := ih b
      refine ⟨by simp [c], fun x hx => ?_⟩
      rcases List.mem_cons.mp hx with z | z
      · subst z; exact ⟨_, List.mem_cons_self, a⟩
      · obtain ⟨y, h1, h2⟩ := d x z; exact ⟨y, List.mem_cons_of_mem _ h1, h2⟩
theorem Sz1.mono {n m : Nat} {x : D} (h : Sz1 n x) (l : n ≤ m) : Sz1 m x := by
  rcases h with h | ⟨q, a, b, c⟩
  · exact .inl h
  · exact .inr ⟨q, a, by omega, c⟩
theorem Sz1.mo {n : Nat} {x e : D} (h : Sz1 n x) (m : Mo1 x e) : Sz1 (n + 1) e := by
  rcases h with h | ⟨l, rfl, hl, hy⟩
  · rw [m.no h.1]; exact .inl h
  · have go : ∀ es, Mo1s l es → es.length ≤ n ∧ ∀ y ∈ es, Sz0 y := fun es ms => by
      obtain ⟨a, b⟩ := ms.mem
      refine ⟨by omega, fun y hy' => ?_⟩
      obtain ⟨d, h1, h2⟩ := b y hy'
      rw [h2.no (hy d h1).1]
      exact hy d h1
    cases m with
    | same z => simp [noLst] at z
    | lst ms => obtain ⟨a, b⟩ := go _ ms; exact .inr ⟨_, rfl, by omega, b⟩
    | more ms =>
      obtain ⟨a, b⟩ := go _ ms
      refine .inr ⟨_, rfl, by simp; omega, fun y hy' => ?_⟩
      rcases List.mem_append.mp hy' with z | z
      · exact b y z
      · rw [List.mem_singleton.mp z]; exact sz0_more
theorem Sz2.mo {n : Nat} {x e : D} (h : Sz2 n x) (m : Mo1 x e) : Sz2 (n + 1) e := by
  rcases h with h | ⟨l, rfl, hl, hy⟩
  · rw [m.no h.1]; exact .inl h
  · have go : ∀ es, Mo1s l es → es.length ≤ n ∧ ∀ y ∈ es, Sz1 (n + 1) y := fun es ms => by
      obtain ⟨a, b⟩ := ms.mem
      refine ⟨by omega, fun y hy' => ?_⟩
      obtain ⟨d, h1, h2⟩ := b y hy'
      exact (hy d h1).mo h2
    cases m with
    | same z => simp [noLst] at z
    | lst ms => obtain ⟨a, b⟩ := go _ ms; exact .inr ⟨_, rfl, by omega, b⟩
    | more ms =>
      obtain ⟨a, b⟩ := go _ ms
      refine .inr ⟨_, rfl, by simp; omega, fun y hy' => ?_⟩
      rcases List.mem_append.mp hy' with z | z
      · exact b y z
      · rw [List.mem_singleton.mp z]; exact .inl sz0_more
theorem shDs_of {o : Addr → Option Str} {k : Nat} : ∀ {l : List D}, (∀ y ∈ l, ∃ t, shD o y = some t ∧ t.length ≤ k) → ∃ ts, shDs o l = some ts ∧ ts.length = l.length ∧ ∀ t ∈ ts, t.length ≤ k
  | [], _ => ⟨[], by simp [shDs], rfl, fun t h => by cases h⟩
  | d :: l, h => by
    obtain ⟨t, a, b⟩ := h d List.mem_cons_self
    obtain ⟨ts, c, e, f⟩ := shDs_of (l := l) fun y hy => h y (List.mem_cons_of_mem _ hy)
    refine ⟨t :: ts, by simp only [shDs, a, c], by simp [e], fun x hx => ?_⟩
    rcases List.mem_cons.mp hx with z | z
    · subst z; exact b
    · exact f x z
theorem dpDs_of {k : Nat} : ∀ {l : List D}, (∀ y ∈ l, dpD y ≤ k) → dpDs l ≤ k
  | [], _ => by simp [dpDs]
  | d :: l, h => by
    have a := h d List.mem_cons_self
    have b := dpDs_of (l := l) fun y hy => h y (List.mem_cons_of_mem _ hy)
    simp only [dpDs]
    omega
theorem list_sh {o : Addr → Option Str} {k n : Nat} {l : List D} (hl : l.length ≤ n) (h : ∀ y ∈ l, ∃ t, shD o y = some t ∧ t.length ≤ k) : ∃ t, shD o (.lst l) = some t ∧ t.length ≤ n * (k + 2) + 2 := by
  obtain ⟨ts, a, b, c⟩ := shDs_of h
  refine ⟨listText ts, by simp only [shD, a], ?_⟩
  have p := piled_le (f := fun t : Str => t) (l := ts) (n := k) c
  rw [List.map_id'] at p
  have q := list_le ts
  have m : ts.length * (k + 2) ≤ n * (k + 2) := Nat.mul_le_mul_right _ (by omega)
  omega
theorem tup_sh {o : Addr → Option Str} {k n : Nat} {l : List D} (hl : l.length ≤ n) (h : ∀ y ∈ l, ∃ t, shD o y = some t ∧ t.length ≤ k) : ∃ t, shD o (.tup l) = some t ∧ t.length ≤ n * (k + 2) + 3 := by
  obtain ⟨ts, a, b, c⟩ := shDs_of h
  refine ⟨tupleText ts, by simp only [shD, a], ?_⟩
  have p := piled_le (f := fun t : Str => t) (l := ts) (n := k) c
  rw [List.map_id'] at p
  have q := tup_le ts
  have m : ts.length * (k + 2) ≤ n * (k + 2) := Nat.mul_le_mul_right _ (by omega)
  omega
theorem Sz1.sh {n : Nat} {x : D} (h : Sz1 n x) (hn : n ≤ 45) : (∃ t, shD (fun _ => none) x = some t ∧ t.length ≤ 4200) ∧ dpD x ≤ 3 := by
  rcases h with ⟨_, t, a, b, c⟩ | ⟨l, rfl, hl, hy⟩
  · exact ⟨⟨t, a, by omega⟩, by omega⟩
  · obtain ⟨t, a, b⟩ := list_sh (n := n) (k := 90) hl fun y h => let ⟨_, t, a, b, _⟩ := hy y h; ⟨t, a, b⟩
    have := dpDs_of (k := 2) fun y h => let ⟨_, _, _, _, c⟩ := hy y h; c
    exact ⟨⟨t, a, by omega⟩, by simp only [dpD]; omega⟩
theorem Sz2.sh {n : Nat} {x : D} (h : Sz2 n x) (hn : n ≤ 45) : (∃ t, shD (fun _ => none) x = some t ∧ t.length ≤ 190000) ∧ dpD x ≤ 4 := by
  rcases h with ⟨_, t, a, b, c⟩ | ⟨l, rfl, hl, hy⟩
  · exact ⟨⟨t, a, by omega⟩, by omega⟩
  · obtain ⟨t, a, b⟩ := list_sh (n := n) (k := 4200) hl fun y h => ((hy y h).sh hn).1
    have := dpDs_of (k := 3) fun y h => ((hy y h).sh hn).2
    have : n * (4200 + 2) ≤ 45 * (4200 + 2) := Nat.mul_le_mul_right _ hn
    exact ⟨⟨t, a, by omega⟩, by simp only [dpD]; omega⟩
theorem four_show {n : Nat} {d0 d1 d2 d3 : D} (hn : n ≤ 45) (h0 : Sz2 n d0) (h1 : Sz2 n d1) (h2 : Sz2 n d2) (h3 : Sz2 n d3) : ∃ t, gShow (fun _ => none) [.tup [d0, d1, d2, d3]] = some (.str t) := by
  have all : ∀ y ∈ [d0, d1, d2, d3], Sz2 n y := fun y hy => by
    simp only [List.mem_cons, List.not_mem_nil, or_false] at hy
    rcases hy with h | h | h | h <;> subst h <;> assumption
  obtain ⟨t, a, b⟩ := tup_sh (n := 4) (k := 190000) (l := [d0, d1, d2, d3]) (by simp) fun y h => ((all y h).sh hn).1
  have c := dpDs_of (k := 4) fun y h => ((all y h).sh hn).2
  refine ⟨t, ?_⟩
  have e : gShow (fun _ => none) [.tup [d0, d1, d2, d3]] = (match shD (fun _ => none) (.tup [d0, d1, d2, d3]) with
    | some t => if t.length ≤ LN ∧ dpD (.tup [d0, d1, d2, d3]) ≤ 50 then some (.str t) else none
    | none => none) := rfl
  rw [e, a]
  dsimp only
  rw [if_pos ⟨by show _ ≤ 1000000; omega, by simp only [dpD]; omega⟩]
theorem no_okd {x : D} (h : noLst x = true) : okD x = true := by
  have := h
  unfold okD
  split
  · simp [noLst] at this
  · exact this
theorem Sz0.okd {x : D} (h : Sz0 x) : okD x = true := no_okd h.1
theorem SzT.okd {x : D} (h : SzT x) : okD x = true := no_okd h.1
theorem okDs_of : ∀ {l : List D}, (∀ y ∈ l, okD y = true) → okDs l = true
  | [], _ => by simp [okDs]
  | d :: l, h => by simp [okDs, h d List.mem_cons_self, okDs_of (l := l) fun y hy => h y (List.mem_cons_of_mem _ hy)]
theorem Sz1.okd {n : Nat} {x : D} (h : Sz1 n x) : okD x = true := by
  rcases h with h | ⟨l, rfl, _, hy⟩
  · exact h.okd
  · simp only [okD]; exact okDs_of fun y h => (hy y h).okd
theorem Sz2.okd {n : Nat} {x : D} (h : Sz2 n x) : okD x = true := by
  rcases h with h | ⟨l, rfl, _, hy⟩
  · exact h.okd
  · simp only [okD]; exact okDs_of fun y h => (hy y h).okd
end Toy

set_option Elab.async false
set_option linter.all false
set_option maxRecDepth 100000
set_option maxHeartbeats 2000000
namespace Toy
open PySem PySem.Spec PyProof.Rows L2 VS
def NN (x : D) : Prop := (∃ l, x = .lst l) ∨ (noLst x = true ∧ m_is_name [.val x] = some (.bl false, []))
def NW (x : D) : Prop := (∃ l, x = .lst l) ∨ (noLst x = true ∧ m_is_whole [.val x] = some (.bl false, []))
theorem list_no (l : List D) : m_is_name [.val (.lst l)] = some (.bl false, []) := rfl
theorem list_nw (l : List D) : m_is_whole [.val (.lst l)] = some (.bl false, []) := rfl
theorem NN.ev {x : D} (h : NN x) : m_is_name [.val x] = some (.bl false, []) := by
  rcases h with ⟨l, rfl⟩ | h
  · exact list_no l
  · exact h.2
theorem NW.ev {x : D} (h : NW x) : m_is_whole [.val x] = some (.bl false, []) := by
  rcases h with ⟨l, rfl⟩ | h
  · exact list_nw l
  · exact h.2
theorem Mo1.lst_inv {l : List D} {e : D} (m : Mo1 (.lst l) e) : ∃ es, Mo1s l es ∧ (e = .lst es ∨ e = .lst (es ++ [.str "more"])) := by
  cases m with
  | same h => simp [noLst] at h
  | lst ms => exact ⟨_, ms, .inl rfl⟩
  | more ms => exact ⟨_, ms, .inr rfl⟩
theorem NN.mo {x e : D} (h : NN x) (m : Mo1 x e) : NN e := by
  rcases h with ⟨l, rfl⟩ | h
  · obtain ⟨es, _, z | z⟩ := m.lst_inv
    · exact .inl ⟨_, z⟩
    · exact .inl ⟨_, z⟩
  · rw [m.no h.1]; exact .inr h
theorem NW.mo {x e : D} (h : NW x) (m : Mo1 x e) : NW e := by
  rcases h with ⟨l, rfl⟩ | h
  · obtain ⟨es, _, z | z⟩ := m.lst_inv
    · exact .inl ⟨_, z⟩
    · exact .inl ⟨_, z⟩
  · rw [m.no h.1]; exact .inr h
theorem Mo1s.strs : ∀ {L : List Str} {es : List D}, Mo1s (L.map .str) es → es = L.map .str
  | [], _, .nil => rfl
  | x :: L, _, .cons a b => by
    rw [a.no (by simp [noLst]), Mo1s.strs b]; rfl
theorem Mo1s.app : ∀ {a b : List D} {es : List D}, Mo1s (a ++ b) es → ∃ fs gs, es = fs ++ gs ∧ Mo1s a fs ∧ Mo1s b gs
  | [], _, es, m => ⟨[], es, rfl, .nil, m⟩
  | x :: a, b, _, .cons m ms => by
    obtain ⟨fs, gs, e, h1, h2⟩ := Mo1s.app ms
    exact ⟨_ :: fs, gs, by rw [e]; rfl, .cons m h1, h2⟩
theorem strs_mo {L : List Str} {e : D} (m : Mo1 (.lst (L.map .str)) e) (h : ∀ y ∈ L, NmOk y) : ∃ M : List Str, e = .lst (M.map .str) ∧ (∀ y ∈ M, NmOk y) ∧ (M = L ∨ M = L ++ [(("more" : String) : Str)]) := by
  obtain ⟨es, ms, z⟩ := m.lst_inv
  have es' := ms.strs
  subst es'
  rcases z with z | z
  · exact ⟨L, z, h, .inl rfl⟩
  · refine ⟨L ++ [(("more" : String) : Str)], by rw [z, List.map_append]; rfl, fun y hy => ?_, .inr rfl⟩
    rcases List.mem_append.mp hy with q | q
    · exact h y q
    · rw [List.mem_singleton.mp q]; exact more_ok
def BIn (n : Nat) (x : D) : Prop := x = .non ∨ x = .str "A" ∨ x = .int 1 ∨ ∃ L : List Str, x = .lst (L.map .str) ∧ L.length ≤ n ∧ ∀ y ∈ L, NmOk y
theorem BIn.mo {n : Nat} {x e : D} (h : BIn n x) (m : Mo1 x e) : BIn (n + 1) e := by
  rcases h with rfl | rfl | rfl | ⟨L, rfl, hl, hy⟩
  · rw [m.no (by simp [noLst])]; exact .inl rfl
  · rw [m.no (by simp [noLst])]; exact .inr (.inl rfl)
  · rw [m.no (by simp [noLst])]; exact .inr (.inr (.inl rfl))
  · obtain ⟨M, rfl, h1, h2⟩ := strs_mo m hy
    refine .inr (.inr (.inr ⟨M, rfl, ?_, h1⟩))
    rcases h2 with z | z
    · subst z; omega
    · subst z; simp; omega
def NRn (n : Nat) (x : D) : Prop := (noLst x = true ∧ m_are_names [.val x] = some (.bl false, [])) ∨
  (∃ L : List Str, x = .lst (L.map .str) ∧ L.length ≤ n ∧ (∀ y ∈ L, NmOk y) ∧ ¬ L.Nodup) ∨
  ∃ (pre : List Str) (y : D) (post : List Str), x = .lst (pre.map .str ++ y :: post.map .str) ∧ pre.length + post.length ≤ n ∧ (∀ z ∈ pre ++ post, NmOk z) ∧ BIn n y
theorem NRn.mo {n : Nat} {x e : D} (h : NRn n x) (m : Mo1 x e) : NRn (n + 1) e := by
  rcases h with h | ⟨L, rfl, hl, hy, nd⟩ | ⟨pre, y, post, rfl, hl, hy, hb⟩
  · rw [m.no h.1]; exact .inl h
  · obtain ⟨M, rfl, h1, h2⟩ := strs_mo m hy
    refine .inr (.inl ⟨M, rfl, ?_, h1, ?_⟩)
    · rcases h2 with z | z
      · subst z; omega
      · subst z; simp; omega
    · rcases h2 with z | z
      · subst z; exact nd
      · subst z; exact fun k => nd (List.nodup_append.mp k).1
  · obtain ⟨es, ms, z⟩ := m.lst_inv
    obtain ⟨fs, gs, rfl, m1, m2⟩ := ms.app
    cases m2 with
    | @cons _ y' _ gs' my mp =>
      have e1 := m1.strs
      have e2 := mp.strs
      subst e1 e2
      have b' := hb.mo my
      rcases z with z | z
      · exact .inr (.inr ⟨pre, y', post, z, by omega, hy, b'⟩)
      · refine .inr (.inr ⟨pre, y', post ++ [(("more" : String) : Str)], by rw [z]; simp, by simp; omega, fun q hq => ?_, b'⟩)
        rw [← List.append_assoc] at hq
        rcases List.mem_append.mp hq with k | k
        · exact hy q k
        · rw [List.mem_singleton.mp k]; exact more_ok
def WhyN (n : Nat) (d0 d1 d2 d3 : D) : Prop := NN d0 ∨ ∃ s, d0 = .str s ∧ NmOk s ∧ (NW d1 ∨ ∃ p, d1 = .int p ∧ (NW d2 ∨ ∃ q, d2 = .int q ∧ (NRn n d3 ∨ ((p < 1 ∨ q < 0) ∧ ∃ L : List Str, d3 = .lst (L.map .str) ∧ L.length ≤ n ∧ ∀ y ∈ L, NmOk y))))
theorem WhyN.mo {n : Nat} {d0 d1 d2 d3 e0 e1 e2 e3 : D} (h : WhyN n d0 d1 d2 d3) (m0 : Mo1 d0 e0) (m1 : Mo1 d1 e1) (m2 : Mo1 d2 e2) (m3 : Mo1 d3 e3) : WhyN (n + 1) e0 e1 e2 e3 := by
  rcases h with h | ⟨s, rfl, hs, h⟩
  · exact .inl (h.mo m0)
  · rw [m0.no (by simp [noLst])]
    refine .inr ⟨s, rfl, hs, ?_⟩
    rcases h with h | ⟨p, rfl, h⟩
    · exact .inl (h.mo m1)
    · rw [m1.no (by simp [noLst])]
      refine .inr ⟨p, rfl, ?_⟩
      rcases h with h | ⟨q, rfl, h⟩
      · exact .inl (h.mo m2)
      · rw [m2.no (by simp [noLst])]
        refine .inr ⟨q, rfl, ?_⟩
        rcases h with h | ⟨hpq, L, rfl, hl, hy⟩
        · exact .inl (h.mo m3)
        · obtain ⟨M, rfl, h1, h2⟩ := strs_mo m3 hy
          refine .inr ⟨hpq, M, rfl, ?_, h1⟩
          rcases h2 with z | z
          · subst z; omega
          · subst z; simp; omega
theorem distinct_le {α : Type} [DecidableEq α] : ∀ l : List α, distinct l ≤ l.length ∧ (distinct l = l.length → l.Nodup)
  | [] => ⟨Nat.le_refl _, fun _ => List.nodup_nil⟩
  | a :: r => by
    obtain ⟨h1, h2⟩ := distinct_le r
    unfold distinct
    by_cases z : a ∈ r
    · rw [if_pos z]
      refine ⟨by simp; omega, fun e => ?_⟩
      simp at e; omega
    · rw [if_neg z]
      refine ⟨by simp; omega, fun e => List.nodup_cons.mpr ⟨z, h2 (by simp at e; omega)⟩⟩
theorem ne_one {x : D} {y : PyData} (h : toP x = some y) (c : y.canLay0 = true) (d : y.depth ≤ 60) : gNe (.lst [x]) (.lst []) = some (.bl true) := by
  have s1 : SeqAt.shaped (.list [y]) = true := by
    unfold SeqAt.shaped
    have c1 : (PyData.list [y]).canLay0 = true := by
      show PyData.canLayAll0 [y] = true
      show (y.canLay0 && true) = true
      rw [c]; rfl
    have d1 : (PyData.list [y]).depth ≤ 64 := by
      simp only [PyData.depth, PyData.depthAll]
      omega
    rw [c1, decide_eq_true d1]; rfl
  have s2 : SeqAt.shaped (.list []) = true := by decide +kernel
  have t1 : toP (.lst [x]) = some (.list [y]) := by
    show (match toPs [x] with | some ys => some (PyData.list ys) | none => none) = _
    have : toPs [x] = some [y] := by
      show (match toP x, toPs [] with | some x, some xs => some (x :: xs) | _, _ => none) = _
      rw [h]; rfl
    rw [this]
  have t2 : toP (.lst []) = some (.list []) := rfl
  unfold gNe eqD
  have sc : scalE (.lst [x]) (.lst []) = none := rfl
  rw [sc, t1, t2]
  dsimp only
  rw [if_pos ⟨s1, s2⟩]
  rfl
theorem BIn.ne {n : Nat} {x : D} (h : BIn n x) : gNe (.lst [x]) (.lst []) = some (.bl true) ∧ m_is_name [.val x] = some (.bl false, []) := by
  rcases h with rfl | rfl | rfl | ⟨L, rfl, hl, hy⟩
  · exact ⟨ne_one (y := .none) rfl rfl (by decide +kernel), by kernel_rfl⟩
  · exact ⟨ne_one (y := .str "A") rfl (by decide +kernel) (by decide +kernel), by kernel_rfl⟩
  · exact ⟨ne_one (y := .int 1) rfl rfl (by decide +kernel), by kernel_rfl⟩
  · refine ⟨ne_one (y := .list (L.map .str)) ?_ (lay_strs L fun x hx => nm_str (hy x hx)) ?_, list_no _⟩
    · show (match toPs (L.map .str) with | some ys => some (PyData.list ys) | none => none) = _
      rw [toPs_strs]
    · have := depth_strs L
      simp only [PyData.depth]
      omega
theorem NRn.ev {n : Nat} (hn : n ≤ 45) {x : D} (h : NRn n x) : m_are_names [.val x] = some (.bl false, []) := by
  rcases h with h | ⟨L, rfl, hl, hy, nd⟩ | ⟨pre, y, post, rfl, hl, hy, hb⟩
  · exact h.2
  · rw [are_strs hy (by omega), decide_eq_false fun e => nd ((distinct_le L).2 e)]
  · obtain ⟨b1, b2⟩ := hb.ne
    have nmy : ∀ s ∈ pre ++ post, NmOk s := hy
    refine are_bad (x := y) (f := fun x => match m_is_name [.val x] with | some (.bl true, []) => true | _ => false) (fun x hx => ?_) (by simp; omega) ?_ b1
    · rcases List.mem_append.mp hx with z | z
      · obtain ⟨s, hs, rfl⟩ := List.mem_map.mp z
        have e : m_is_name [.val (.str s)] = some (.bl true, []) := hy s (List.mem_append_left _ hs)
        rw [e]
      · rcases List.mem_cons.mp z with z | z
        · subst z; rw [b2]
        · obtain ⟨s, hs, rfl⟩ := List.mem_map.mp z
          have e : m_is_name [.val (.str s)] = some (.bl true, []) := hy s (List.mem_append_right _ hs)
          rw [e]
    · have nil : ∀ L : List Str, (∀ s ∈ L, NmOk s) → (L.map D.str).filterMap (fun x => if (match m_is_name [.val x] with | some (.bl true, []) => true | _ => false) = true then none else some x) = [] := fun L hL => by
        induction L with
        | nil => rfl
        | cons a r ih =>
          have e : m_is_name [.val (.str a)] = some (.bl true, []) := hL a List.mem_cons_self
          rw [List.map_cons, List.filterMap_cons, e]
          exact ih fun s hs => hL s (List.mem_cons_of_mem _ hs)
      rw [List.filterMap_append, nil pre fun s hs => hy s (List.mem_append_left _ hs), List.filterMap_cons, b2, nil post fun s hs => hy s (List.mem_append_right _ hs)]
      rfl
theorem WhyN.bad {n : Nat} (hn : n ≤ 45) {d0 d1 d2 d3 e0 e1 e2 e3 : D} (h : WhyN n d0 d1 d2 d3) (u0 : unD e0 = d0) (u1 : unD e1 = d1) (u2 : unD e2 = d2) (u3 : unD e3 = d3) : MxBad e0 e1 e2 e3 := by
  have w : ∀ i : Int, m_is_whole [.val (.int i)] = some (.bl true, []) := fun i => rfl
  rcases h with h | ⟨s, rfl, hs, h⟩
  · exact bad0 (by rw [u0]; exact h.ev)
  · have b0 : m_is_name [.val (unD e0)] = some (.bl true, []) := by rw [u0]; exact hs
    rcases h with h | ⟨p, rfl, h⟩
    · exact bad1 b0 (by rw [u1]; exact h.ev)
    · have b1 : m_is_whole [.val (unD e1)] = some (.bl true, []) := by rw [u1]; exact w p
      rcases h with h | ⟨q, rfl, h⟩
      · exact bad2 b0 b1 (by rw [u2]; exact h.ev)
      · have b2 : m_is_whole [.val (unD e2)] = some (.bl true, []) := by rw [u2]; exact w q
        rcases h with h | ⟨hpq, L, rfl, hl, hy⟩
        · exact bad3 b0 b1 b2 (by rw [u3]; exact h.ev hn)
        · exact bad4 b0 u1 u2 (by rw [u3]; exact are_strs hy (by omega)) hpq
def Odd (n : Nat) (d0 d1 d2 d3 : D) : Prop := Sz2 n d0 ∧ Sz2 n d1 ∧ Sz2 n d2 ∧ Sz2 n d3 ∧ WhyN n d0 d1 d2 d3
theorem Odd.mo {n : Nat} {d0 d1 d2 d3 e0 e1 e2 e3 : D} (h : Odd n d0 d1 d2 d3) (m0 : Mo1 d0 e0) (m1 : Mo1 d1 e1) (m2 : Mo1 d2 e2) (m3 : Mo1 d3 e3) : Odd (n + 1) e0 e1 e2 e3 :=
  ⟨h.1.mo m0, h.2.1.mo m1, h.2.2.1.mo m2, h.2.2.2.1.mo m3, h.2.2.2.2.mo m0 m1 m2 m3⟩
end Toy

set_option Elab.async false
set_option linter.all false
set_option maxRecDepth 100000
set_option maxHeartbeats 1000000
namespace Toy
open PySem PySem.Spec PyProof.Rows L2 VS
theorem noTab_fr {H H' : Hp} (k : VS.Fr H H') : VS.Fr (noTab H) (noTab H') := fun q o e n => noTab_of (k q o (noTab_ext q o e) n) n
theorem ext_fr {F H : Hp} (e : Ext F H) : VS.Fr F (noTab H) := fun q o h n => noTab_of (e q o h) n
def told (v : V) (d : D) : D := match v with
  | .ref a => .bth a d
  | _ => d
theorem okD_un {d : D} (h : okD d = true) : unD d = d := by cases d <;> first | rfl | (simp [okD, noLst] at h)
theorem told_un {v : V} {d : D} (h : okD d = true) : unD (told v d) = d := by
  cases v <;> first | rfl | exact okD_un h
theorem rep_told {G : Gx} {F : Hp} {v : V} {d : D} (r : Rep G F v d) : Rep G F v (Toy.told v d) := by
  cases v with
  | ref a => exact .bth r
  | _ => exact r
theorem told_inv {G : Gx} {F F0 : Hp} {v v' : V} {d : D} (r0 : Rep G F0 v d) (r : Rep G F v' (Toy.told v d)) : v' = v := by
  cases v with
  | ref a => cases r; rfl
  | non => cases r0; cases r; rfl
  | bl b => cases r0; cases r; rfl
  | int i => cases r0; cases r; rfl
  | str x => cases r0; cases r; rfl
  | _ => cases r0
def spRef (G : Gx) : Sp := fun vs H Q _ => ∃ (v0 v1 v2 v3 : V) (d0 d1 d2 d3 : D) (n : Nat), vs = [v0, v1, v2, v3] ∧ n ≤ 44 ∧ LamX.Tabs G.T H ∧ Rep G (noTab H) v0 d0 ∧ Rep G (noTab H) v1 d1 ∧ Rep G (noTab H) v2 d2 ∧ Rep G (noTab H) v3 d3 ∧ Odd n d0 d1 d2 d3 ∧
  ∀ (H' : Hp) (P : Option Addr), (∀ q o, H q = some o → NT o → P ≠ some q → H' q = some o) → LamX.Tabs G.T H' → (∀ p, P = some p → v3 = .ref p ∧ ∃ us, H p = some (.lst us) ∧ H' p = some (.lst (us ++ [.str "more"]))) → Q (.bl true) H'
theorem law_refused_len {G : Gx} : ∀ us H Q E, spRef G us H Q E → us.length = 4 := fun us H Q E ⟨_, _, _, _, _, _, _, _, _, e, _⟩ => by subst e; rfl
theorem ok7 {G : Gx} {H : Hp} {σ : L2.St} (t : LamX.Tabs G.T H) (len : σ.length = 7) {v0 v1 v2 v3 : V} {d0 d1 d2 d3 : D} {s4 s6 : Sl} (h0 : σ[0]? = some (some v0)) (h1 : σ[1]? = some (some v1)) (h2 : σ[2]? = some (some v2)) (h3 : σ[3]? = some (some v3))
    (r0 : Rep G (noTab H) v0 d0) (r1 : Rep G (noTab H) v1 d1) (r2 : Rep G (noTab H) v2 d2) (r3 : Rep G (noTab H) v3 d3)
    (q4 : s4 = .no ∨ ∃ d v, s4 = .val d ∧ σ[4]? = some (some v) ∧ Rep G (noTab H) v d) (q6 : s6 = .no ∨ ∃ d v, s6 = .val d ∧ σ[6]? = some (some v) ∧ Rep G (noTab H) v d) :
    Ok ⟨G, noTab H, H, []⟩ (noTab H) H σ [.val d0, .val d1, .val d2, .val d3, s4, .no, s6] := ok_vals noTab_ext (noTab_tb t) len fun i s e => match i, e with
  | 0, e => by cases e; exact .inr ⟨_, _, rfl, h0, r0⟩
  | 1, e => by cases e; exact .inr ⟨_, _, rfl, h1, r1⟩
  | 2, e => by cases e; exact .inr ⟨_, _, rfl, h2, r2⟩
  | 3, e => by cases e; exact .inr ⟨_, _, rfl, h3, r3⟩
  | 4, e => by cases e; exact q4
  | 5, e => by cases e; exact .inl rfl
  | 6, e => by cases e; exact q6
  | i + 7, e => by simp at e
theorem seq_go {G : Gx} {c : VS.Ctx} {F H : Hp} {σ : L2.St} {ρ ρ' : Rho} {E : Ends} {R : TS} {m : SS} (hc : c.G = G) (I : Ok c F H σ ρ) (e : m ρ = some (.nx, ρ')) (k : ∀ σ1 H1 F1, Ext F F1 → Ok c F1 H1 σ1 ρ' → R E σ1 H1) : tSeq (vsQ G m) R E σ H := ⟨c, hc, F, ρ, I, .nx, ρ', e, k⟩
theorem caught_ev {e0 e1 e2 e3 : D} (h : MxBad e0 e1 e2 e3) :
    law_refused_hb_2 [.val e0, .val e1, .val e2, .val e3, .val .non, .no, .no] = some (.nx, [.val e0, .val e1, .val e2, .val e3, .val (.exc 1 (.tup [e0, e1, e2, e3])), .no, .no]) := by
  have a : (aC (sV 0) (aC (sV 1) (aC (sV 2) (aC (sV 3) aN)))) [.val e0, .val e1, .val e2, .val e3, .val .non, .no, .no] = some ([e0, e1, e2, e3], [.val e0, .val e1, .val e2, .val e3, .val .non, .no, .no]) := rfl
  have s : sMakeX 0 4 5 mx_Step_init (aC (sV 0) (aC (sV 1) (aC (sV 2) (aC (sV 3) aN)))) [.val e0, .val e1, .val e2, .val e3, .val .non, .no, .no] = some (.xc 1 (.tup [e0, e1, e2, e3]) [.val e0, .val e1, .val e2, .val e3, .val .non, .no, .no]) := by
    unfold sMakeX
    rw [a]
    dsimp only
    rw [if_pos (show [e0, e1, e2, e3].length + 1 = 5 from rfl)]
    have h : mx_Step_init (.slf 0 [] :: [e0, e1, e2, e3].map .val) = some (.xc 1 (.tup [e0, e1, e2, e3])) := h
    rw [h]
  unfold law_refused_hb_2 xTry
  rw [s]
  rfl
section
variable {d0 d1 d2 d3 : D} {T : Str} {s4 s6 : Sl}
theorem tup_ev (o0 : okD d0 = true) (o1 : okD d1 = true) (o2 : okD d2 = true) (o3 : okD d3 = true) : (sL gTup (aC (sU (sV 0)) (aC (sU (sV 1)) (aC (sU (sV 2)) (aC (sU (sV 3)) aN))))) [.val d0, .val d1, .val d2, .val d3, s4, .no, s6] = some (.tup [d0, d1, d2, d3], [.val d0, .val d1, .val d2, .val d3, s4, .no, s6]) := by
  have e : ∀ {i : Nat} {d : D} {ρ : Rho}, okD d = true → (sV i) ρ = some (d, ρ) → (sU (sV i)) ρ = some (d, ρ) := fun {i d ρ} o h => by
    have := sU_02 h
    rw [okD_un o] at this
    exact this
  exact sL_of (aC_of (e o0 rfl) (aC_of (e o1 rfl) (aC_of (e o2 rfl) (aC_of (e o3 rfl) rfl)))) rfl
theorem due_ev (o0 : okD d0 = true) (o1 : okD d1 = true) (o2 : okD d2 = true) (o3 : okD d3 = true) (h : gShow oNo [.tup [d0, d1, d2, d3]] = some (.str T)) : law_refused_hb_3 [.val d0, .val d1, .val d2, .val d3, s4, .no, s6] = some (.str T, [.val d0, .val d1, .val d2, .val d3, s4, .no, s6]) :=
  sL_of (aC_of (tup_ev o0 o1 o2 o3) rfl) h
theorem val_ev {s6 : Sl} : (sU (s1 (gExV xvs) (sU (sV 4)))) [.val d0, .val d1, .val d2, .val d3, .val (.exc 1 (.tup [d0, d1, d2, d3])), .no, s6] = some (.tup [d0, d1, d2, d3], [.val d0, .val d1, .val d2, .val d3, .val (.exc 1 (.tup [d0, d1, d2, d3])), .no, s6]) := rfl
theorem ne_str02 (T : Str) : gNe (.str T) (.str T) = some (.bl false) := by simp [gNe, eqD, scalE]
theorem eq_str02 (T : Str) : gEq (.str T) (.str T) = some (.bl true) := by simp [gEq, eqD, scalE]
theorem four_ev (h : gShow oNo [.tup [d0, d1, d2, d3]] = some (.str T)) : law_refused_hb_4 [.val d0, .val d1, .val d2, .val d3, .val (.exc 1 (.tup [d0, d1, d2, d3])), .no, .val (.str T)] = some (false, [.val d0, .val d1, .val d2, .val d3, .val (.exc 1 (.tup [d0, d1, d2, d3])), .no, .val (.str T)]) :=
  bOr_f02 (sB_of rfl) (bOr_f02 (bNot_of (v := true) (sB_of rfl)) (sB_of (s2_of (sL_of (aC_of (val_ev (s6 := .val (.str T))) rfl) h) (sU_02 (d := .str T) rfl) (ne_str02 T))))
theorem last_ev {s6 : Sl} (o0 : okD d0 = true) (o1 : okD d1 = true) (o2 : okD d2 = true) (o3 : okD d3 = true) (h : gShow oNo [.tup [d0, d1, d2, d3]] = some (.str T)) : law_refused_hb_7 [.val d0, .val d1, .val d2, .val d3, .val (.exc 1 (.tup [d0, d1, d2, d3])), .no, s6] = some (.bl true, [.val d0, .val d1, .val d2, .val d3, .val (.exc 1 (.tup [d0, d1, d2, d3])), .no, s6]) :=
  s2_of (sL_of (aC_of val_ev rfl) h) (sL_of (aC_of (tup_ev o0 o1 o2 o3) rfl) h) (eq_str02 T)
end
def isL : D → Bool
  | .lst _ => true
  | _ => false
theorem isl_ev {d : D} (h : okD d = true) : gIsTy2 3 d = some (.bl (isL d)) := by
  cases d with
  | lst l => rfl
  | dct b ks vs =>
    cases b with
    | true => simp [okD, noLst] at h
    | false => rfl
  | adr a => simp [okD, noLst] at h
  | ins c f => simp [okD, noLst] at h
  | scr x => simp [okD, noLst] at h
  | exc c x => simp [okD, noLst] at h
  | bth a x => simp [okD, noLst] at h
  | _ => rfl
theorem law_refused_ok {G : Gx} : ∀ us H Q E, spRef G us H Q E → law_refused_T G { nx := fun _ H1 => Q .non H1, rt := Q } (L2.start N_law_refused us) H := by
  intro us H Q E ⟨v0, v1, v2, v3, d0, d1, d2, d3, n, eu, hn, tb, R0, R1, R2, R3, O, q⟩
  subst eu
  obtain ⟨z0, z1, z2, z3, W⟩ := O
  have k0 := z0.okd
  have k1 := z1.okd
  have k2 := z2.okd
  have k3 := z3.okd
  obtain ⟨T, hT⟩ := four_show (n := n) (by omega) z0 z1 z2 z3
  -- caught = None
  have I0 : Ok ⟨G, noTab H, H, []⟩ (noTab H) H (L2.start N_law_refused [v0, v1, v2, v3]) [.val d0, .val d1, .val d2, .val d3, .no, .no, .no] := ok7 tb rfl rfl rfl rfl rfl R0 R1 R2 R3 (.inl rfl) (.inl rfl)
  refine ⟨_, rfl, _, _, I0, .non, _, rfl, fun v H1 F1 x1 I1 rv => ?_⟩
  have ev : v = .non := by cases rv; rfl
  subst ev
  have f1 : VS.Fr H H1 := I1.fr'
  have r0 := R0.toN (noTab_fr f1)
  have r1 := R1.toN (noTab_fr f1)
  have r2 := R2.toN (noTab_fr f1)
  have r3 := R3.toN (noTab_fr f1)
  -- try
  have I1' : Ok ⟨G, noTab H1, H1, []⟩ (noTab H1) H1 ((L2.start N_law_refused [v0, v1, v2, v3]).set 4 (some .non)) [.val (told v0 d0), .val (told v1 d1), .val (told v2 d2), .val (told v3 d3), .val .non, .no, .no] :=
    ok7 I1.tb.t rfl rfl rfl rfl rfl (rep_told r0) (rep_told r1) (rep_told r2) (rep_told r3) (.inr ⟨_, _, rfl, rfl, .non⟩) (.inl rfl)
  refine seq_go rfl I1' (caught_ev (W.bad (by omega) (told_un k0) (told_un k1) (told_un k2) (told_un k3))) fun σ2 H2 F2 x2 I2 => ?_
  have f2 : VS.Fr H1 H2 := I2.fr'
  have t2 := I2.tb.t
  obtain ⟨w0, a0, b0⟩ := I2.valAt (i := 0) rfl
  obtain ⟨w1, a1, b1⟩ := I2.valAt (i := 1) rfl
  obtain ⟨w2, a2, b2⟩ := I2.valAt (i := 2) rfl
  obtain ⟨w3, a3, b3⟩ := I2.valAt (i := 3) rfl
  obtain ⟨w4, a4, b4⟩ := I2.valAt (i := 4) rfl
  have w0e := told_inv r0 b0
  have w1e := told_inv r1 b1
  have w2e := told_inv r2 b2
  have w3e := told_inv r3 b3
  subst w0e w1e w2e w3e
  have toB : VS.Fr F2 (noTab H2) := ext_fr I2.fh
  cases b4 with
  | @exc x dx _ wv _ g1 g2 rt =>
  cases rt with
  | @tup tt ws _ g3 rs =>
  have ews : ws = [w0, w1, w2, w3] := by
    cases rs with
    | cons c0 rs =>
    cases rs with
    | cons c1 rs =>
    cases rs with
    | cons c2 rs =>
    cases rs with
    | cons c3 rs =>
    cases rs
    rw [told_inv r0 c0, told_inv r1 c1, told_inv r2 c2, told_inv r3 c3]
  subst ews
  have q0 := r0.toN (noTab_fr f2)
  have q1 := r1.toN (noTab_fr f2)
  have q2 := r2.toN (noTab_fr f2)
  have q3 := r3.toN (noTab_fr f2)
  have hx := toB _ _ g1 (fun _ z => by unfold exq at z; cases z)
  have hdx := toB _ _ g2 (fun _ z => by cases z)
  have htt := toB _ _ g3 (fun _ z => by cases z)
  have l2 : σ2.length = 7 := I2.len
  -- due
  have I2' : Ok ⟨G, noTab H2, H2, []⟩ (noTab H2) H2 σ2 [.val d0, .val d1, .val d2, .val d3, .no, .no, .no] := ok7 t2 l2 a0 a1 a2 a3 q0 q1 q2 q3 (.inl rfl) (.inl rfl)
  refine ⟨_, rfl, _, _, I2', .str T, _, due_ev k0 k1 k2 k3 hT, fun v H3 F3 x3 I3 rv => ?_⟩
  have ev : v = .str T := by cases rv; rfl
  subst ev
  have f3 : VS.Fr H2 H3 := I3.fr'
  have t3 := I3.tb.t
  have q0 := q0.toN (noTab_fr f3)
  have q1 := q1.toN (noTab_fr f3)
  have q2 := q2.toN (noTab_fr f3)
  have q3 := q3.toN (noTab_fr f3)
  have hx := noTab_fr f3 _ _ hx (fun _ z => by unfold exq at z; cases z)
  have hdx := noTab_fr f3 _ _ hdx (fun _ z => by cases z)
  have htt := noTab_fr f3 _ _ htt (fun _ z => by cases z)
  have st : ∀ (j : Nat), j ≠ 6 → (σ2.set 6 (some (V.str T)))[j]? = σ2[j]? := fun j hj => List.getElem?_set_ne (fun z => hj z.symm)
  have s6 : (σ2.set 6 (some (V.str T)))[6]? = some (some (.str T)) := List.getElem?_set_self (by rw [l2]; decide)
  generalize hσ : σ2.set 6 (some (V.str T)) = σ3 at st s6
  have l3 : σ3.length = 7 := by rw [← hσ, List.length_set]; exact l2
  have exr : Rep G (noTab H3) (.ref x) (.exc 1 (.tup [d0, d1, d2, d3])) := .exc hx hdx (.tup htt (.cons q0 (.cons q1 (.cons q2 (.cons q3 .nil)))))
  have I3' : Ok ⟨G, noTab H3, H3, []⟩ (noTab H3) H3 σ3 [.val d0, .val d1, .val d2, .val d3, .val (.exc 1 (.tup [d0, d1, d2, d3])), .no, .val (.str T)] :=
    ok7 t3 l3 ((st 0 (by decide)).trans a0) ((st 1 (by decide)).trans a1) ((st 2 (by decide)).trans a2) ((st 3 (by decide)).trans a3) q0 q1 q2 q3 (.inr ⟨_, _, rfl, (st 4 (by decide)).trans a4, exr⟩) (.inr ⟨_, _, rfl, s6, .str T⟩)
  show tSeq _ _ _ (σ2.set 6 (some (V.str T))) H3
  rw [hσ]
  -- the test
  refine ⟨_, rfl, _, _, I3', false, _, four_ev hT, fun H4 F4 x4 I4 => ?_⟩
  refine Eq.mpr (if_neg (by decide)) ?_
  have f4 : VS.Fr H3 H4 := I4.fr'
  have t4 := I4.tb.t
  have q0 := q0.toN (noTab_fr f4)
  have q1 := q1.toN (noTab_fr f4)
  have q2 := q2.toN (noTab_fr f4)
  have q3 := q3.toN (noTab_fr f4)
  have hx := noTab_fr f4 _ _ hx (fun _ z => by unfold exq at z; cases z)
  have hdx := noTab_fr f4 _ _ hdx (fun _ z => by cases z)
  have htt := noTab_fr f4 _ _ htt (fun _ z => by cases z)
  have fAll : VS.Fr H H4 := ((f1.trans f2).trans f3).trans f4
  have I4' : Ok ⟨G, noTab H4, H4, []⟩ (noTab H4) H4 σ3 [.val d0, .val d1, .val d2, .val d3, .no, .no, .no] :=
    ok7 t4 l3 ((st 0 (by decide)).trans a0) ((st 1 (by decide)).trans a1) ((st 2 (by decide)).trans a2) ((st 3 (by decide)).trans a3) q0 q1 q2 q3 (.inl rfl) (.inl rfl)
  have hb6 : law_refused_hb_6 [.val d0, .val d1, .val d2, .val d3, .no, .no, .no] = some (isL d3, [.val d0, .val d1, .val d2, .val d3, .no, .no, .no]) := by
    have e : (sU (sV 3)) [.val d0, .val d1, .val d2, .val d3, .no, .no, .no] = some (d3, [.val d0, .val d1, .val d2, .val d3, .no, .no, .no]) := by
      have := sU_02 (show (sV 3) [.val d0, .val d1, .val d2, .val d3, .no, .no, .no] = some (d3, [.val d0, .val d1, .val d2, .val d3, .no, .no, .no]) from rfl)
      rw [okD_un k3] at this
      exact this
    exact sB_of (s1_of e (isl_ev k3))
  -- the end, told anew
  have fin : ∀ (H5 : Hp) (e0 e1 e2 e3 : D) (T' : Str), LamX.Tabs G.T H5 → Rep G (noTab H5) w0 e0 → Rep G (noTab H5) w1 e1 → Rep G (noTab H5) w2 e2 → Rep G (noTab H5) w3 e3 → okD e0 = true → okD e1 = true → okD e2 = true → okD e3 = true → gShow oNo [.tup [e0, e1, e2, e3]] = some (.str T') →
      noTab H5 x = some (exq x (G.cls 1) dx) → noTab H5 dx = some (.xd [("value", .ref tt)]) → noTab H5 tt = some (.tup [w0, w1, w2, w3]) → (∀ H6, VS.Fr H5 H6 → LamX.Tabs G.T H6 → Q (.bl true) H6) → vtQ G law_refused_hb_7 σ3 H5 Q := fun H5 e0 e1 e2 e3 T' t5 y0 y1 y2 y3 o0 o1 o2 o3 hT' gx gdx gtt fq => by
    have I5 : Ok ⟨G, noTab H5, H5, []⟩ (noTab H5) H5 σ3 [.val e0, .val e1, .val e2, .val e3, .val (.exc 1 (.tup [e0, e1, e2, e3])), .no, .no] :=
      ok7 t5 l3 ((st 0 (by decide)).trans a0) ((st 1 (by decide)).trans a1) ((st 2 (by decide)).trans a2) ((st 3 (by decide)).trans a3) y0 y1 y2 y3 (.inr ⟨_, _, rfl, (st 4 (by decide)).trans a4, .exc gx gdx (.tup gtt (.cons y0 (.cons y1 (.cons y2 (.cons y3 .nil)))))⟩) (.inl rfl)
    exact ⟨_, rfl, _, _, I5, .bl true, _, last_ev o0 o1 o2 o3 hT', fun v H6 F6 x6 I6 rv => by cases rv; exact fq H6 I6.fr' I6.tb.t⟩
  cases hd : d3 with
  | lst l =>
    subst hd
    refine ⟨_, rfl, _, _, I4', true, _, hb6, fun H5 F5 x5 I5 => ?_⟩
    refine Eq.mpr (if_pos rfl) ?_
    have f5 : VS.Fr H4 H5 := I5.fr'
    have t5 := I5.tb.t
    have q0 := q0.toN (noTab_fr f5)
    have q1 := q1.toN (noTab_fr f5)
    have q2 := q2.toN (noTab_fr f5)
    have q3' := q3.toN (noTab_fr f5)
    cases q3' with
    | @lst p us _ hp rl =>
    have hp5 : H5 p = some (.lst us) := noTab_ext _ _ hp
    have ul : us.length < sizeLine := by
      have a := rl.length
      rcases z3 with z | ⟨l', e, hl, _⟩
      · exact absurd z.1 (by simp [noLst])
      · cases e
        rw [a]
        exact Nat.lt_of_le_of_lt hl (Nat.lt_of_le_of_lt hn (by rw [sizeLine_eq]; decide))
    refine ⟨p, us, (st 3 (by decide)).trans a3, hp5, ul, ?_⟩
    have t6 : LamX.Tabs G.T (upd H5 p (.lst (us ++ [.str "more"]))) := tabs_upd t5 hp5 nt_lst nc_lst
    have hF : ∀ b o, noTab H5 b = some o → b ≠ p → noTab (upd H5 p (.lst (us ++ [.str "more"]))) b = some o := fun b o e ne => by
      unfold noTab at e ⊢
      rw [upd_ne ne]
      exact e
    have h2 : noTab (upd H5 p (.lst (us ++ [.str "more"]))) p = some (.lst (us ++ [.str "more"])) := noTab_of upd_same nt_lst
    obtain ⟨e0, y0, m0⟩ := Rep.more hF hp h2 q0 k0
    obtain ⟨e1, y1, m1⟩ := Rep.more hF hp h2 q1 k1
    obtain ⟨e2, y2, m2⟩ := Rep.more hF hp h2 q2 k2
    obtain ⟨e3, y3, m3⟩ := Rep.more hF hp h2 (.lst hp rl : Rep G (noTab H5) (.ref p) (.lst l)) k3
    obtain ⟨g0, g1', g2', g3', _⟩ := Odd.mo ⟨z0, z1, z2, z3, W⟩ m0 m1 m2 m3
    obtain ⟨T', hT'⟩ := four_show (n := n + 1) (by omega) g0 g1' g2' g3'
    have hx := hF _ _ (noTab_fr f5 _ _ hx (fun _ z => by unfold exq at z; cases z)) (fun z => by
      have := noTab_fr f5 _ _ hx (fun _ z => by unfold exq at z; cases z)
      rw [z, hp] at this
      unfold exq at this
      cases this)
    have hdx := hF _ _ (noTab_fr f5 _ _ hdx (fun _ z => by cases z)) (fun z => by
      have := noTab_fr f5 _ _ hdx (fun _ z => by cases z)
      rw [z, hp] at this
      cases this)
    have htt := hF _ _ (noTab_fr f5 _ _ htt (fun _ z => by cases z)) (fun z => by
      have := noTab_fr f5 _ _ htt (fun _ z => by cases z)
      rw [z, hp] at this
      cases this)
    refine fin _ e0 e1 e2 e3 T' t6 y0 y1 y2 y3 g0.okd g1'.okd g2'.okd g3'.okd hT' hx hdx htt fun H6 f6 t7 => ?_
    have hpH : H p = some (.lst us) := by
      cases R3 with
      | lst hh _ =>
        have a := noTab_ext _ _ hh
        have b := (fAll.trans f5) _ _ a nt_lst
        rw [hp5] at b
        cases b
        exact a
    refine q H6 (some p) (fun b o e nt ne => f6 _ _ ?_ nt) t7 (fun p' e => ?_)
    · have nb : b ≠ p := fun z => ne (by rw [z])
      rw [upd_ne nb]
      exact (fAll.trans f5) _ _ e nt
    · cases e
      exact ⟨rfl, us, hpH, f6 _ _ upd_same nt_lst⟩
  | _ =>
    subst hd
    refine ⟨_, rfl, _, _, I4', false, _, hb6, fun H5 F5 x5 I5 => ?_⟩
    refine Eq.mpr (if_neg (by decide)) ?_
    have f5 : VS.Fr H4 H5 := I5.fr'
    have t5 := I5.tb.t
    refine fin H5 d0 d1 d2 _ T t5 (q0.toN (noTab_fr f5)) (q1.toN (noTab_fr f5)) (q2.toN (noTab_fr f5)) (q3.toN (noTab_fr f5)) k0 k1 k2 k3 hT (noTab_fr f5 _ _ hx (fun _ z => by unfold exq at z; cases z)) (noTab_fr f5 _ _ hdx (fun _ z => by cases z)) (noTab_fr f5 _ _ htt (fun _ z => by cases z)) fun H6 f6 t6 => q H6 none (fun b o e nt _ => ((fAll.trans f5).trans f6) _ _ e nt) t6 fun p e => by cases e
end Toy

set_option Elab.async false
set_option linter.all false
set_option maxRecDepth 100000
set_option maxHeartbeats 2000000
namespace Toy
open PySem PySem.Spec PyProof.Rows L2 VS
def oNames : List D := [.non, .str "", .str "A", .str "a1", .str "abcdefghi", .int 0, .lst [.str "a"], .tup [.str "a"], .str "a b", .bl true, .str "a\n"]
def oPer : List D := [.int 0, .int (-1), .non, .bl true, .str "1", .lst [.int 1], .tup [.int 1]]
def oDel : List D := [.int (-1), .non, .bl true, .bl false, .str "0", .lst [.int 0]]
def oRd (nm : Str) (ks : List Str) : List D := [.non, .tup (ks.map .str), .str "ab", .dct false [] [], .int 0, .lst [.non], .lst [.str "A"], .lst (ks.map .str ++ [.str "x", .str "x"]), .lst [.str "a", .str "b", .str "a"], .lst [.lst [.str "a"]], .lst [.str nm, .int 1]]
def oddL (nm : Str) (p q : Int) (ks : List Str) : List D :=
  (((oNames.map fun x => D.tup [x, .int p, .int q, .lst (ks.map .str)]) ++ (oPer.map fun x => D.tup [.str nm, x, .int q, .lst (ks.map .str)])) ++ (oDel.map fun x => D.tup [.str nm, .int p, x, .lst (ks.map .str)])) ++ ((oRd nm ks).map fun x => D.tup [.str nm, .int p, .int q, x])
theorem law_odd_eq (nm : Str) (p q : Int) (ks : List Str) (h : ks.length ≤ 4) : m_law_odd [.val (.str nm), .val (.int p), .val (.int q), .val (.scr (ks.map .str))] = some (.lst (oddL nm p q ks), []) := by
  match ks, h with
  | [], _ => kernel_rfl
  | [a], _ => kernel_rfl
  | [a, b], _ => kernel_rfl
  | [a, b, c], _ => kernel_rfl
  | [a, b, c, d], _ => kernel_rfl
  | _ :: _ :: _ :: _ :: _ :: _, h => simp at h
end Toy

set_option Elab.async false
set_option linter.all false
set_option maxRecDepth 100000
set_option maxHeartbeats 1000000
namespace Toy
open PySem PySem.Spec PyProof.Rows L2 VS
mutual
theorem Mo1.refl : ∀ {d : D}, okD d = true → Mo1 d d
  | .lst ds, h => .lst (Mo1s.refl (by simpa [okD] using h))
  | .non, h => .same (by simp [noLst])
  | .bl _, h => .same (by simp [noLst])
  | .int _, h => .same (by simp [noLst])
  | .str _, h => .same (by simp [noLst])
  | .tup _, h => .same (by simpa [okD] using h)
  | .dct _ _ _, h => .same (by simpa [okD] using h)
  | .adr _, h => by simp [okD, noLst] at h
  | .ins _ _, h => by simp [okD, noLst] at h
  | .scr _, h => by simp [okD, noLst] at h
  | .exc _ _, h => by simp [okD, noLst] at h
  | .bth _ _, h => by simp [okD, noLst] at h
theorem Mo1s.refl : ∀ {ds : List D}, okDs ds = true → Mo1s ds ds
  | [], _ => .nil
  | d :: ds, h => by
    simp only [okDs, Bool.and_eq_true] at h
    exact .cons (Mo1.refl h.1) (Mo1s.refl h.2)
end
theorem Odd.up {n : Nat} {d0 d1 d2 d3 : D} (h : Odd n d0 d1 d2 d3) : Odd (n + 1) d0 d1 d2 d3 :=
  h.mo (Mo1.refl h.1.okd) (Mo1.refl h.2.1.okd) (Mo1.refl h.2.2.1.okd) (Mo1.refl h.2.2.2.1.okd)
theorem any_inv {G : Gx} {F F0 : Hp} {v v' : V} {d : D} (r0 : Rep G F0 v d) (r : Rep G F v' (anyV v)) : v' = v := by
  cases r0 <;> (cases r; rfl)
theorem Mo1.isl {d e : D} (m : Mo1 d e) (h : isL e = true) : isL d = true := by
  cases m with
  | same _ => exact h
  | lst _ => rfl
  | more _ => rfl
structure El (G : Gx) (Hb H : Hp) (z : Addr) (n : Nat) (t : V) : Prop where
  ex : ∃ (a : Addr) (v0 v1 v2 v3 : V) (d0 d1 d2 d3 : D), t = .ref a ∧ H a = some (.tup [v0, v1, v2, v3]) ∧ Rep G (noTab H) v0 d0 ∧ Rep G (noTab H) v1 d1 ∧ Rep G (noTab H) v2 d2 ∧ Rep G (noTab H) v3 d3 ∧ Odd n d0 d1 d2 d3 ∧
    ∀ p, v3 = .ref p → isL d3 = true → Hb p = none ∧ p ≠ z
theorem El.fr {G : Gx} {Hb H H' : Hp} {z : Addr} {n : Nat} {t : V} (E : El G Hb H z n t) (f : VS.Fr H H') : El G Hb H' z n t := by
  obtain ⟨a, v0, v1, v2, v3, d0, d1, d2, d3, e, h, r0, r1, r2, r3, O, k⟩ := E.ex
  exact ⟨a, v0, v1, v2, v3, d0, d1, d2, d3, e, f _ _ h (fun _ z => by cases z), r0.toN (noTab_fr f), r1.toN (noTab_fr f), r2.toN (noTab_fr f), r3.toN (noTab_fr f), O, k⟩
theorem El.up {G : Gx} {Hb H : Hp} {z : Addr} {n : Nat} {t : V} (E : El G Hb H z n t) : El G Hb H z (n + 1) t := by
  obtain ⟨a, v0, v1, v2, v3, d0, d1, d2, d3, e, h, r0, r1, r2, r3, O, k⟩ := E.ex
  exact ⟨a, v0, v1, v2, v3, d0, d1, d2, d3, e, h, r0, r1, r2, r3, O.up, k⟩
theorem El.more {G : Gx} {Hb H H' : Hp} {z : Addr} {n : Nat} {t : V} {p : Addr} {us : List V} (E : El G Hb H z n t) (hp : H p = some (.lst us)) (hp' : H' p = some (.lst (us ++ [.str "more"]))) (f : ∀ q o, H q = some o → NT o → q ≠ p → H' q = some o) : El G Hb H' z (n + 1) t := by
  obtain ⟨a, v0, v1, v2, v3, d0, d1, d2, d3, e, h, r0, r1, r2, r3, O, k⟩ := E.ex
  have hF : ∀ b o, noTab H b = some o → b ≠ p → noTab H' b = some o := fun b o e ne => by
    have nt : NT o := fun ps z => by
      subst z
      unfold noTab at e
      split at e
      · cases e
      · rename_i n
        exact n _ e
    exact noTab_of (f b o (noTab_ext b o e) nt ne) nt
  have h1 : noTab H p = some (.lst us) := noTab_of hp nt_lst
  have h2 : noTab H' p = some (.lst (us ++ [.str "more"])) := noTab_of hp' nt_lst
  obtain ⟨e0, y0, m0⟩ := Rep.more hF h1 h2 r0 O.1.okd
  obtain ⟨e1, y1, m1⟩ := Rep.more hF h1 h2 r1 O.2.1.okd
  obtain ⟨e2, y2, m2⟩ := Rep.more hF h1 h2 r2 O.2.2.1.okd
  obtain ⟨e3, y3, m3⟩ := Rep.more hF h1 h2 r3 O.2.2.2.1.okd
  have na : a ≠ p := fun z => by subst z; rw [hp] at h; cases h
  exact ⟨a, v0, v1, v2, v3, e0, e1, e2, e3, e, f _ _ h (fun _ z => by cases z) na, y0, y1, y2, y3, O.mo m0 m1 m2 m3, fun p' e' hl => k p' e' (m3.isl hl)⟩
structure Lp (G : Gx) (Hb : Hp) (z : Addr) (ts : List V) (w8 w9 : V) (i : Nat) (σ : L2.St) (H : Hp) : Prop where
  len : σ.length = 14
  s8 : σ[8]? = some (some w8)
  s9 : σ[9]? = some (some w9)
  fr : VS.Fr Hb H
  tb : LamX.Tabs G.T H
  at_ : H z = some (.lst ts)
  el : ∀ (j : Nat) t, i ≤ j → ts[j]? = some t → El G Hb H z (10 + i) t
theorem args_ev {v0 v1 v2 v3 : D} : law_right_hb_22 [.no, .no, .no, .no, .no, .no, .val (.tup [v0, v1, v2, v3]), .no, .no, .no, .no, .no, .no, .no] = some ([v0, v1, v2, v3], [.no, .no, .no, .no, .no, .no, .val (.tup [v0, v1, v2, v3]), .no, .no, .no, .no, .no, .no, .no]) := rfl
theorem loop_turn {G : Gx} {Hb : Hp} {z : Addr} {ts : List V} {w8 w9 t : V} {i : Nat} {σ : L2.St} {H : Hp} (hi : i < 35) (ht : ts[i]? = some t) (S : Lp G Hb z ts w8 w9 i σ H) {Q : VK}
    (q : ∀ H', Lp G Hb z ts w8 w9 (i + 1) (σ.set 6 (some t)) H' → Q (.bl true) H') : tCall (spRef G) [] E0 (vaQ G law_right_hb_22) (σ.set 6 (some t)) H Q := by
  obtain ⟨a, v0, v1, v2, v3, d0, d1, d2, d3, e, h, r0, r1, r2, r3, O, k⟩ := (S.el i t (Nat.le_refl i) ht).ex
  subst e
  have l14 : (σ.set 6 (some (V.ref a))).length = 14 := by rw [List.length_set]; exact S.len
  have s6 : (σ.set 6 (some (V.ref a)))[6]? = some (some (.ref a)) := List.getElem?_set_self (by rw [S.len]; decide)
  have st : ∀ (j : Nat), j ≠ 6 → (σ.set 6 (some (V.ref a)))[j]? = σ[j]? := fun j hj => List.getElem?_set_ne (fun z => hj z.symm)
  have rt : Rep G (noTab H) (.ref a) (.tup [anyV v0, anyV v1, anyV v2, anyV v3]) := .tup (noTab_of h (fun _ z => by cases z)) (.cons r0.any (.cons r1.any (.cons r2.any (.cons r3.any .nil))))
  have I : Ok ⟨G, noTab H, H, []⟩ (noTab H) H (σ.set 6 (some (V.ref a))) [.no, .no, .no, .no, .no, .no, .val (.tup [anyV v0, anyV v1, anyV v2, anyV v3]), .no, .no, .no, .no, .no, .no, .no] :=
    ok_vals noTab_ext (noTab_tb S.tb) l14 fun i s e => match i, e with
      | 0, e => by cases e; exact .inl rfl
      | 1, e => by cases e; exact .inl rfl
      | 2, e => by cases e; exact .inl rfl
      | 3, e => by cases e; exact .inl rfl
      | 4, e => by cases e; exact .inl rfl
      | 5, e => by cases e; exact .inl rfl
      | 6, e => by cases e; exact .inr ⟨_, _, rfl, s6, rt⟩
      | 7, e => by cases e; exact .inl rfl
      | 8, e => by cases e; exact .inl rfl
      | 9, e => by cases e; exact .inl rfl
      | 10, e => by cases e; exact .inl rfl
      | 11, e => by cases e; exact .inl rfl
      | 12, e => by cases e; exact .inl rfl
      | 13, e => by cases e; exact .inl rfl
      | i + 14, e => by simp at e
  refine ⟨_, rfl, _, _, I, _, _, args_ev, fun vs H1 F1 x1 I1 rs => ?_⟩
  have evs : vs = [v0, v1, v2, v3] := by
    cases rs with
    | cons c0 rs =>
    cases rs with
    | cons c1 rs =>
    cases rs with
    | cons c2 rs =>
    cases rs with
    | cons c3 rs =>
    cases rs
    rw [any_inv r0 c0, any_inv r1 c1, any_inv r2 c2, any_inv r3 c3]
  subst evs
  have f1 : VS.Fr H H1 := I1.fr'
  refine ⟨v0, v1, v2, v3, d0, d1, d2, d3, 10 + i, rfl, by omega, I1.tb.t, r0.toN (noTab_fr f1), r1.toN (noTab_fr f1), r2.toN (noTab_fr f1), r3.toN (noTab_fr f1), O, fun H' P fp t' hP => q H' ?_⟩
  cases P with
  | none =>
    have f2 : VS.Fr H1 H' := fun q o e n => fp q o e n (by simp)
    have f := f1.trans f2
    exact ⟨l14, (st 8 (by decide)).trans S.s8, (st 9 (by decide)).trans S.s9, S.fr.trans f, t', f _ _ S.at_ nt_lst, fun j t hj ht => by
      have := ((S.el j t (by omega) ht).fr f).up
      exact this⟩
  | some p =>
    obtain ⟨ep, us, g1, g2⟩ := hP p rfl
    have hl : isL d3 = true := by
      subst ep
      have r := r3.toN (noTab_fr f1)
      cases r with
      | lst _ _ => rfl
      | tup hh _ =>
        have := noTab_ext _ _ hh
        rw [g1] at this
        cases this
      | dct hh _ =>
        exact absurd O.2.2.2.1.okd (by
          rename_i b od ks vs ds _
          intro hok
          cases b with
          | true => simp [okD, noLst] at hok
          | false =>
            obtain ⟨kvs, q1, _⟩ := hh
            have := noTab_ext _ _ q1
            rw [g1] at this
            cases this)
      | adr => exact absurd O.2.2.2.1.okd (by simp [okD, noLst])
      | scr _ _ => exact absurd O.2.2.2.1.okd (by simp [okD, noLst])
      | ins _ _ _ => exact absurd O.2.2.2.1.okd (by simp [okD, noLst])
      | exc _ _ _ => exact absurd O.2.2.2.1.okd (by simp [okD, noLst])
      | bth _ => exact absurd O.2.2.2.1.okd (by simp [okD, noLst])
    obtain ⟨nb, nz⟩ := k p ep hl
    have f2 : ∀ q o, H1 q = some o → NT o → q ≠ p → H' q = some o := fun q o e n ne => fp q o e n fun z => ne (Option.some.inj z).symm
    exact ⟨l14, (st 8 (by decide)).trans S.s8, (st 9 (by decide)).trans S.s9, fun q o e n => f2 q o (f1 _ _ (S.fr _ _ e n) n) n (fun z => by subst z; rw [nb] at e; cases e), t', f2 _ _ (f1 _ _ S.at_ nt_lst) nt_lst (Ne.symm nz), fun j t hj ht =>
      ((S.el j t (by omega) ht).fr f1).more g1 g2 f2⟩
end Toy

set_option Elab.async false
set_option linter.all false
set_option maxRecDepth 100000
set_option maxHeartbeats 2000000
namespace Toy
open PySem PySem.Spec PyProof.Rows L2 VS
def szB (d : D) : Bool := noLst d && (match shD (fun _ => none) d with | some t => decide (t.length ≤ 90) | none => false) && decide (dpD d ≤ 2)
theorem sz_of {d : D} (h : szB d = true) : Sz0 d := by
  unfold szB at h
  simp only [Bool.and_eq_true, decide_eq_true_eq] at h
  obtain ⟨⟨a, b⟩, c⟩ := h
  split at b
  · rename_i t e
    exact ⟨a, t, e, of_decide_eq_true b, c⟩
  · cases b
theorem szT_of {d : D} (h : Sz0 d) : SzT d := by
  obtain ⟨a, t, b, c, e⟩ := h
  exact ⟨a, t, b, by omega, e⟩
theorem sz_int {i : Int} (h0 : 0 ≤ i) (h1 : i ≤ 1000) : Sz0 (.int i) := by
  have h : ((List.range 1001).all fun n : Nat => szB (.int (n : Nat))) = true := by decide +kernel
  have := List.all_eq_true.mp h i.toNat (List.mem_range.mpr (by omega))
  rw [show ((i.toNat : Nat) : Int) = i by omega] at this
  exact sz_of this
theorem sz_nm {s : Str} (h : NmOk s) : Sz0 (.str s) := ⟨by simp [noLst], reprText s, by simp only [shD], by have := nm_text h; omega, by simp [dpD]⟩
theorem sz2_of {n : Nat} {d : D} (h : Sz0 d) : Sz2 n d := .inl (szT_of h)
theorem sz2_strs {n : Nat} {L : List Str} (hl : L.length ≤ n) (h : ∀ y ∈ L, NmOk y) : Sz2 n (.lst (L.map .str)) := .inr ⟨_, rfl, by rw [List.length_map]; exact hl, fun y hy => by
  obtain ⟨s, hs, rfl⟩ := List.mem_map.mp hy
  exact .inl (sz_nm (h s hs))⟩
theorem sz2_lst {n : Nat} {l : List D} (hl : l.length ≤ n) (h : ∀ y ∈ l, Sz0 y) : Sz2 n (.lst l) := .inr ⟨_, rfl, hl, fun y hy => .inl (h y hy)⟩
theorem all_sz {l : List D} (h : l.all szB = true) : ∀ y ∈ l, Sz0 y := fun y hy => sz_of (List.all_eq_true.mp h y hy)
def OddT (x : D) : Prop := ∃ d0 d1 d2 d3, x = .tup [d0, d1, d2, d3] ∧ Odd 10 d0 d1 d2 d3 ∧ ∀ l, d3 = .lst l → l.length ≤ 10
section
variable {nm : Str} {p q : Int} {ks : List Str} (hnm : NmOk nm) (hp : 1 ≤ p ∧ p ≤ 1000) (hq : 0 ≤ q ∧ q ≤ 1000) (hk : ∀ y ∈ ks, NmOk y) (hl : ks.length ≤ 4)
include hnm hp hq hk hl
theorem ks_sz : Sz2 10 (.lst (ks.map .str)) := sz2_strs (by omega) hk
theorem p_sz : Sz2 10 (.int p) := sz2_of (sz_int (by omega) hp.2)
theorem q_sz : Sz2 10 (.int q) := sz2_of (sz_int hq.1 hq.2)
theorem nm_sz : Sz2 10 (.str nm) := sz2_of (sz_nm hnm)
theorem odd_name {x : D} (hx : x ∈ oNames) : OddT (.tup [x, .int p, .int q, .lst (ks.map .str)]) := by
  refine ⟨_, _, _, _, rfl, ⟨?_, p_sz hnm hp hq hk hl, q_sz hnm hp hq hk hl, ks_sz hnm hp hq hk hl, .inl ?_⟩, fun l e => by cases e; rw [List.length_map]; omega⟩
  · simp only [oNames, List.mem_cons, List.not_mem_nil, or_false] at hx
    rcases hx with h | h | h | h | h | h | h | h | h | h | h <;> subst h
    all_goals first
      | exact sz2_of (sz_of (by decide +kernel))
      | exact sz2_lst (by decide) (all_sz (by decide +kernel))
  · simp only [oNames, List.mem_cons, List.not_mem_nil, or_false] at hx
    rcases hx with h | h | h | h | h | h | h | h | h | h | h <;> subst h
    all_goals first
      | exact .inl ⟨_, rfl⟩
      | exact .inr ⟨by simp [noLst, noLsts], by kernel_rfl⟩
theorem odd_per {x : D} (hx : x ∈ oPer) : OddT (.tup [.str nm, x, .int q, .lst (ks.map .str)]) := by
  refine ⟨_, _, _, _, rfl, ⟨nm_sz hnm hp hq hk hl, ?_, q_sz hnm hp hq hk hl, ks_sz hnm hp hq hk hl, .inr ⟨nm, rfl, hnm, ?_⟩⟩, fun l e => by cases e; rw [List.length_map]; omega⟩
  · simp only [oPer, List.mem_cons, List.not_mem_nil, or_false] at hx
    rcases hx with h | h | h | h | h | h | h <;> subst h
    all_goals first
      | exact sz2_of (sz_of (by decide +kernel))
      | exact sz2_lst (by decide) (all_sz (by decide +kernel))
  · simp only [oPer, List.mem_cons, List.not_mem_nil, or_false] at hx
    rcases hx with h | h | h | h | h | h | h <;> subst h
    · exact .inr ⟨0, rfl, .inr ⟨q, rfl, .inr ⟨.inl (by decide), ks, rfl, by omega, hk⟩⟩⟩
    · exact .inr ⟨-1, rfl, .inr ⟨q, rfl, .inr ⟨.inl (by decide), ks, rfl, by omega, hk⟩⟩⟩
    all_goals first
      | exact .inl (.inl ⟨_, rfl⟩)
      | exact .inl (.inr ⟨by simp [noLst, noLsts], by kernel_rfl⟩)
theorem odd_del {x : D} (hx : x ∈ oDel) : OddT (.tup [.str nm, .int p, x, .lst (ks.map .str)]) := by
  refine ⟨_, _, _, _, rfl, ⟨nm_sz hnm hp hq hk hl, p_sz hnm hp hq hk hl, ?_, ks_sz hnm hp hq hk hl, .inr ⟨nm, rfl, hnm, .inr ⟨p, rfl, ?_⟩⟩⟩, fun l e => by cases e; rw [List.length_map]; omega⟩
  · simp only [oDel, List.mem_cons, List.not_mem_nil, or_false] at hx
    rcases hx with h | h | h | h | h | h <;> subst h
    all_goals first
      | exact sz2_of (sz_of (by decide +kernel))
      | exact sz2_lst (by decide) (all_sz (by decide +kernel))
  · simp only [oDel, List.mem_cons, List.not_mem_nil, or_false] at hx
    rcases hx with h | h | h | h | h | h <;> subst h
    · exact .inr ⟨-1, rfl, .inr ⟨.inr (by decide), ks, rfl, by omega, hk⟩⟩
    all_goals first
      | exact .inl (.inl ⟨_, rfl⟩)
      | exact .inl (.inr ⟨by simp [noLst, noLsts], by kernel_rfl⟩)
theorem odd_rd {x : D} (hx : x ∈ oRd nm ks) : OddT (.tup [.str nm, .int p, .int q, x]) := by
  have xo : NmOk (("x" : String) : Str) := by unfold NmOk; kernel_rfl
  have ao : NmOk (("a" : String) : Str) := by unfold NmOk; kernel_rfl
  have bo : NmOk (("b" : String) : Str) := by unfold NmOk; kernel_rfl
  have mk : ∀ {x : D}, Sz2 10 x → NRn 10 x → (∀ l, x = .lst l → l.length ≤ 10) → OddT (.tup [.str nm, .int p, .int q, x]) := fun {x} h1 h2 h3 =>
    ⟨_, _, _, _, rfl, ⟨nm_sz hnm hp hq hk hl, p_sz hnm hp hq hk hl, q_sz hnm hp hq hk hl, h1, .inr ⟨nm, rfl, hnm, .inr ⟨p, rfl, .inr ⟨q, rfl, .inl h2⟩⟩⟩⟩, h3⟩
  simp only [oRd, List.mem_cons, List.not_mem_nil, or_false] at hx
  rcases hx with h | h | h | h | h | h | h | h | h | h | h <;> subst h
  · exact mk (sz2_of (sz_of (by decide +kernel))) (.inl ⟨by simp [noLst], by kernel_rfl⟩) fun l e => by cases e
  · have nl : noLst (.tup (ks.map .str)) = true := by
      simp only [noLst]
      have go : ∀ L : List Str, noLsts (L.map .str) = true := fun L => by
        induction L with
        | nil => simp [noLsts]
        | cons a r ih => simp [noLsts, noLst, ih]
      exact go ks
    obtain ⟨t, e1, e2⟩ := tup_sh (o := fun _ => none) (k := 82) (n := 4) (l := ks.map .str) (by rw [List.length_map]; exact hl) fun y hy => by
      obtain ⟨s, hs, rfl⟩ := List.mem_map.mp hy
      exact ⟨reprText s, by simp only [shD], nm_text (hk s hs)⟩
    have dp := dpDs_of (k := 0) (l := ks.map D.str) fun y hy => by
      obtain ⟨s, hs, rfl⟩ := List.mem_map.mp hy
      simp [dpD]
    exact mk (.inl ⟨nl, t, e1, by omega, by simp only [dpD]; omega⟩) (.inl ⟨nl, rfl⟩) fun l e => by cases e
  · exact mk (sz2_of (sz_of (by decide +kernel))) (.inl ⟨by simp [noLst], by kernel_rfl⟩) fun l e => by cases e
  · exact mk (sz2_of (sz_of (by decide +kernel))) (.inl ⟨by simp [noLst], by kernel_rfl⟩) fun l e => by cases e
  · exact mk (sz2_of (sz_of (by decide +kernel))) (.inl ⟨by simp [noLst], by kernel_rfl⟩) fun l e => by cases e
  · exact mk (sz2_lst (by decide) (all_sz (by decide +kernel))) (.inr (.inr ⟨[], .non, [], rfl, by decide, (fun z hz => by cases hz), .inl rfl⟩)) fun l e => by cases e; decide
  · exact mk (sz2_lst (by decide) (all_sz (by decide +kernel))) (.inr (.inr ⟨[], .str "A", [], rfl, by decide, (fun z hz => by cases hz), .inr (.inl rfl)⟩)) fun l e => by cases e; decide
  · have e : (D.lst (ks.map .str ++ [.str "x", .str "x"])) = .lst ((ks ++ [(("x" : String) : Str), (("x" : String) : Str)]).map .str) := by rw [List.map_append]; rfl
    have ok : ∀ y ∈ ks ++ [(("x" : String) : Str), (("x" : String) : Str)], NmOk y := fun y hy => by
      rcases List.mem_append.mp hy with h | h
      · exact hk y h
      · simp only [List.mem_cons, List.not_mem_nil, or_false] at h
        rcases h with h | h <;> (subst h; exact xo)
    have ln : (ks ++ [(("x" : String) : Str), (("x" : String) : Str)]).length ≤ 10 := by simp; omega
    rw [e]
    exact mk (sz2_strs ln ok) (.inr (.inl ⟨_, rfl, ln, ok, fun nd => by
      have := (List.nodup_append.mp nd).2.1
      simp at this⟩)) fun l e => by cases e; rw [List.length_map]; exact ln
  · have ok : ∀ y ∈ [(("a" : String) : Str), (("b" : String) : Str), (("a" : String) : Str)], NmOk y := fun y hy => by
      simp only [List.mem_cons, List.not_mem_nil, or_false] at hy
      rcases hy with h | h | h <;> subst h
      · exact ao
      · exact bo
      · exact ao
    exact mk (sz2_strs (L := [(("a" : String) : Str), (("b" : String) : Str), (("a" : String) : Str)]) (by decide) ok) (.inr (.inl ⟨[(("a" : String) : Str), (("b" : String) : Str), (("a" : String) : Str)], rfl, by decide, ok, by decide +kernel⟩)) fun l e => by cases e; decide
  · refine mk (.inr ⟨_, rfl, by decide, fun y hy => ?_⟩) (.inr (.inr ⟨[], .lst [.str "a"], [], rfl, by decide, (fun z hz => by cases hz), .inr (.inr (.inr ⟨[(("a" : String) : Str)], rfl, by decide, fun y hy => ?_⟩))⟩)) fun l e => by cases e; decide
    · rw [List.mem_singleton.mp hy]
      exact .inr ⟨_, rfl, by decide, all_sz (by decide +kernel)⟩
    · rw [List.mem_singleton.mp hy]; exact ao
  · refine mk (sz2_lst (by simp) fun y hy => ?_) (.inr (.inr ⟨[nm], .int 1, [], rfl, by simp, fun z hz => ?_, .inr (.inr (.inl rfl))⟩)) fun l e => by cases e; simp
    · simp only [List.mem_cons, List.not_mem_nil, or_false] at hy
      rcases hy with h | h <;> subst h
      · exact sz_nm hnm
      · exact sz_of (by decide +kernel)
    · have : z = nm := by simpa using hz
      rw [this]; exact hnm
theorem odd_all {x : D} (hx : x ∈ oddL nm p q ks) : OddT x := by
  unfold oddL at hx
  rcases List.mem_append.mp hx with h | h
  · rcases List.mem_append.mp h with h | h
    · rcases List.mem_append.mp h with h | h
      · obtain ⟨y, hy, rfl⟩ := List.mem_map.mp h
        exact odd_name hnm hp hq hk hl hy
      · obtain ⟨y, hy, rfl⟩ := List.mem_map.mp h
        exact odd_per hnm hp hq hk hl hy
    · obtain ⟨y, hy, rfl⟩ := List.mem_map.mp h
      exact odd_del hnm hp hq hk hl hy
  · obtain ⟨y, hy, rfl⟩ := List.mem_map.mp h
    exact odd_rd hnm hp hq hk hl hy
end
theorem odd_len (nm : Str) (p q : Int) (ks : List Str) : (oddL nm p q ks).length = 35 := by
  unfold oddL
  simp only [List.length_append, List.length_map]
  rfl
end Toy

set_option Elab.async false
set_option linter.all false
set_option maxRecDepth 100000
set_option maxHeartbeats 1000000
namespace Toy
open PySem PySem.Spec PyProof.Rows L2 VS
theorem odd_ev {nm : Str} {p q : Int} {ks : List Str} (h : ks.length ≤ 4) : law_right_hb_21 [.no, .no, .val (.str nm), .val (.int p), .val (.int q), .no, .no, .val (.scr (ks.map .str)), .no, .no, .no, .no, .no, .no] = some (.lst (oddL nm p q ks), [.no, .no, .val (.str nm), .val (.int p), .val (.int q), .no, .no, .val (.scr (ks.map .str)), .no, .no, .no, .no, .no, .no]) :=
  sCall_of (aC_of rfl (aC_of rfl (aC_of rfl (aC_of rfl rfl)))) rfl (law_odd_eq nm p q ks h)
theorem strs_reps02 (G : Gx) (F : Hp) : ∀ L : List Str, Reps G F (L.map V.str) (L.map .str)
  | [] => .nil
  | x :: L => .cons (.str x) (strs_reps02 G F L)
mutual
/-- as in F but at p, where no list stands -/
theorem Rep.but {G : Gx} {F F' : Hp} {p : Addr} (hF : ∀ b o, F b = some o → NT o → b ≠ p → F' b = some o) (hp : ∀ o, F p = some o → ∃ x us, o = .frz x (.lst us)) : ∀ {v : V} {d : D}, Rep G F v d → okD d = true → Rep G F' v d
  | _, _, .non, _ => .non
  | _, _, .bl b, _ => .bl b
  | _, _, .int i, _ => .int i
  | _, _, .str x, _ => .str x
  | _, _, .lst h r, z => .lst (hF _ _ h nt_lst fun e => by subst e; obtain ⟨x, us, e⟩ := hp _ h; cases e) (Reps.but hF hp r (by simpa [okD] using z))
  | _, _, .tup h r, z => .tup (hF _ _ h (fun _ z => by cases z) fun e => by subst e; obtain ⟨x, us, e⟩ := hp _ h; cases e) (Reps.but2 hF hp r (by simpa [okD, noLst] using z))
  | _, _, .dct (b := b) (ks := ks) (ds := ds) h r, z => by
    cases b with
    | true => simp [okD, noLst] at z
    | false =>
      obtain ⟨kvs, g1, g2, g3, g4⟩ := h
      cases ks with
      | cons _ _ => simp [okD, noLst] at z
      | nil =>
        cases ds with
        | cons _ _ => simp [okD, noLst] at z
        | nil => exact Rep.dct (b := false) ⟨kvs, hF _ _ g1 (fun _ z => by cases z) fun e => (by subst e; obtain ⟨x, us, e⟩ := hp _ g1; cases e), g2, g3, g4⟩ (Reps.but hF hp r (by simp [okDs]))
  | _, _, .adr a, z => by simp [okD, noLst] at z
  | _, _, .scr _ _, z => by simp [okD, noLst] at z
  | _, _, .ins _ _ _, z => by simp [okD, noLst] at z
  | _, _, .exc _ _ _, z => by simp [okD, noLst] at z
  | _, _, .bth _, z => by simp [okD, noLst] at z
theorem Reps.but {G : Gx} {F F' : Hp} {p : Addr} (hF : ∀ b o, F b = some o → NT o → b ≠ p → F' b = some o) (hp : ∀ o, F p = some o → ∃ x us, o = .frz x (.lst us)) : ∀ {vs : List V} {ds : List D}, Reps G F vs ds → okDs ds = true → Reps G F' vs ds
  | _, _, .nil, _ => .nil
  | _, _, .cons h r, z => by
    simp only [okDs, Bool.and_eq_true] at z
    exact .cons (Rep.but hF hp h z.1) (Reps.but hF hp r z.2)
theorem Reps.but2 {G : Gx} {F F' : Hp} {p : Addr} (hF : ∀ b o, F b = some o → NT o → b ≠ p → F' b = some o) (hp : ∀ o, F p = some o → ∃ x us, o = .frz x (.lst us)) : ∀ {vs : List V} {ds : List D}, Reps G F vs ds → noLsts ds = true → Reps G F' vs ds
  | _, _, .nil, _ => .nil
  | _, _, .cons h r, z => by
    simp only [noLsts, Bool.and_eq_true] at z
    exact .cons (Rep.but hF hp h (no_okd z.1)) (Reps.but2 hF hp r z.2)
end
theorem loop_all {G : Gx} {nm : Str} {p q : Int} {ks : List Str} (hnm : NmOk nm) (hp : 1 ≤ p ∧ p ≤ 1000) (hq : 0 ≤ q ∧ q ≤ 1000) (hk : ∀ y ∈ ks, NmOk y) (hl : ks.length ≤ 4) {σ : L2.St} {H : Hp} {pk : Addr} {w8 w9 : V} {E : Ends}
    (len : σ.length = 14) (s2 : σ[2]? = some (some (.str nm))) (s3 : σ[3]? = some (some (.int p))) (s4 : σ[4]? = some (some (.int q))) (s7 : σ[7]? = some (some (.ref pk))) (s8 : σ[8]? = some (some w8)) (s9 : σ[9]? = some (some w9))
    (tb : LamX.Tabs G.T H) (hpk : H pk = some (.lst (ks.map V.str)))
    (fin : ∀ σ' H', σ'.length = 14 → σ'[8]? = some (some w8) → σ'[9]? = some (some w9) → VS.Fr H H' → LamX.Tabs G.T H' → E.nx σ' H') :
    tFor (iList G.K (tLockE (vtQ G law_right_hb_21))) (gName 6) (tIfS (fun σ H Q => tCall (spRef G) [] E0 (vaQ G law_right_hb_22) σ H fun x H1 => ∃ b, x = V.bl b ∧ Q (!b) H1) (vsQ G law_right_hb_23) tNext) E σ H := by
  refine ⟨pk, _, hpk, trivial, fun od => ?_⟩
  generalize hHl : upd H pk (.frz od (.lst (ks.map V.str))) = Hl
  have lpk : Hl pk = some (.frz od (.lst (ks.map V.str))) := by rw [← hHl]; exact upd_same
  have lne : ∀ {b : Addr}, b ≠ pk → Hl b = H b := fun h => by rw [← hHl]; exact upd_ne h
  have tl : LamX.Tabs G.T Hl := by rw [← hHl]; exact tabs_upd tb hpk nt_lst nc_lst
  have rk : Rep G (nL Hl) (.ref pk) (.scr (ks.map .str)) := .scr (.inl (.inr ⟨od, nL_of lpk (fun _ z => by cases z) fun _ z => by cases z⟩)) (strs_reps02 G _ ks)
  have nLtb : TbOk G.T (nL Hl) Hl := ⟨tl, fun x hx => by
    obtain ⟨ps, e, _⟩ := tl x hx
    unfold nL rsA
    rw [e]⟩
  have I : Ok ⟨G, nL Hl, Hl, []⟩ (nL Hl) Hl σ [.no, .no, .val (.str nm), .val (.int p), .val (.int q), .no, .no, .val (.scr (ks.map .str)), .no, .no, .no, .no, .no, .no] :=
    ok_vals rsA_ext nLtb len fun i s e => match i, e with
      | 0, e => by cases e; exact .inl rfl
      | 1, e => by cases e; exact .inl rfl
      | 2, e => by cases e; exact .inr ⟨_, _, rfl, s2, .str _⟩
      | 3, e => by cases e; exact .inr ⟨_, _, rfl, s3, .int _⟩
      | 4, e => by cases e; exact .inr ⟨_, _, rfl, s4, .int _⟩
      | 5, e => by cases e; exact .inl rfl
      | 6, e => by cases e; exact .inl rfl
      | 7, e => by cases e; exact .inr ⟨_, _, rfl, s7, rk⟩
      | 8, e => by cases e; exact .inl rfl
      | 9, e => by cases e; exact .inl rfl
      | 10, e => by cases e; exact .inl rfl
      | 11, e => by cases e; exact .inl rfl
      | 12, e => by cases e; exact .inl rfl
      | 13, e => by cases e; exact .inl rfl
      | i + 14, e => by simp at e
  refine ⟨_, rfl, _, _, I, _, _, odd_ev hl, fun v H1 F1 x1 I1 rv => ?_⟩
  have fr1 : VS.Fr Hl H1 := I1.fr'
  have k1 : H1 pk = some (.frz od (.lst (ks.map V.str))) := fr1 _ _ lpk (fun _ z => by cases z)
  have newL : ∀ b us, F1 b = some (.lst us) → Hl b = none := fun b us e => by
    cases h : Hl b with
    | none => rfl
    | some o =>
      cases h0 : nL Hl b with
      | none =>
        have := I1.n0 b o h h0
        rw [e] at this
        cases this
      | some o' =>
        have := I1.f0 b o' h0
        rw [e] at this
        cases this
        exact absurd rfl (nL_no h0 us)
  refine ⟨k1, ?_⟩
  generalize hH2 : upd H1 pk (.lst (ks.map V.str)) = H2
  have n2 : ∀ {b : Addr}, b ≠ pk → H2 b = H1 b := fun h => by rw [← hH2]; exact upd_ne h
  have p2 : H2 pk = some (.lst (ks.map V.str)) := by rw [← hH2]; exact upd_same
  have frH : VS.Fr H H2 := fun b o e n => by
    by_cases z : b = pk
    · subst z; rw [hpk] at e; rw [p2]; exact e
    · rw [n2 z]; exact fr1 _ _ ((lne z).trans e) n
  have t2 : LamX.Tabs G.T H2 := by
    rw [← hH2]
    refine tabs_mod I1.tb.t fun b u e kk => ?_
    have nb : b ≠ pk := fun z => by
      subst z
      rw [k1] at e
      cases e
      rcases kk with ⟨ps, kk⟩ | ⟨c, q, kk⟩
      · cases kk
      · unfold LamX.CodeO at kk; cases kk
    rw [upd_ne nb]; exact e
  have F1ne : ∀ b o, F1 b = some o → (∀ x u, o ≠ .frz x u) → b ≠ pk := fun b o e nf z => by
    subst z
    have := I1.fh _ _ e
    rw [k1] at this
    exact nf _ _ (Option.some.inj this).symm
  have nHp : ∀ {b : Addr}, Hl b = none → H b = none := fun {b} h => by
    have nb : b ≠ pk := fun z => by subst z; rw [lpk] at h; cases h
    rw [← lne nb]; exact h
  cases rv with
  | @lst z ts _ hz rts =>
    have zne : z ≠ pk := F1ne _ _ hz fun _ _ z => by cases z
    have z2 : H2 z = some (.lst ts) := (n2 zne).trans (I1.fh _ _ hz)
    have tl35 : ts.length = 35 := by rw [rts.length, odd_len]
    have toH2 : ∀ b o, F1 b = some o → NT o → (∀ x u, o ≠ .frz x u) → noTab H2 b = some o := fun b o e n nf => noTab_of ((n2 (F1ne b o e nf)).trans (I1.fh _ _ e)) n
    have elem : ∀ (j : Nat) t, ts[j]? = some t → El G H H2 z 10 t := fun j t ht => by
      have hj : j < (oddL nm p q ks).length := by rw [← rts.length]; exact (List.getElem?_eq_some_iff.mp ht).1
      obtain ⟨v, hv, rt⟩ := rts.get (List.getElem?_eq_getElem hj)
      rw [ht] at hv
      cases hv
      obtain ⟨d0, d1, d2, d3, ed, O, sm⟩ := odd_all hnm hp hq hk hl (List.getElem_mem hj)
      rw [ed] at rt
      cases rt with
      | @tup a vs _ ha rvs =>
        have frz0 : ∀ {v : V} {d : D} {n : Nat}, Rep G F1 v d → Sz2 n d → Rep G (noTab H2) v d := fun {v d n} r s => by
          -- nothing of it is a locked list; a dict is locked and stays
          have go : ∀ b o, F1 b = some o → NT o → b ≠ pk → noTab H2 b = some o := fun b o e nt ne => noTab_of ((n2 ne).trans (I1.fh _ _ e)) nt
          have hF : ∀ b o, rsA [] F1 b = some o → True := fun _ _ _ => trivial
          have key : ∀ {v : V} {d : D}, Rep G F1 v d → okD d = true → ∃ e, Rep G (noTab H2) v e ∧ e = d := fun {v d} r o => by
            have pk1 : F1 pk = some (.frz od (.lst (ks.map V.str))) := I1.f0 _ _ (nL_of lpk (fun _ z => by cases z) fun _ z => by cases z)
            exact ⟨d, Rep.but (p := pk) go (fun u e => by rw [pk1] at e; cases e; exact ⟨_, _, rfl⟩) r o, rfl⟩
          obtain ⟨e, h1, h2⟩ := key r s.okd
          rw [← h2]; exact h1
        obtain ⟨v0, v1, v2, v3, evs, c0, c1, c2, c3⟩ : ∃ v0 v1 v2 v3, vs = [v0, v1, v2, v3] ∧ Rep G F1 v0 d0 ∧ Rep G F1 v1 d1 ∧ Rep G F1 v2 d2 ∧ Rep G F1 v3 d3 := by
          cases rvs with
          | cons c0 rvs =>
          cases rvs with
          | cons c1 rvs =>
          cases rvs with
          | cons c2 rvs =>
          cases rvs with
          | cons c3 rvs =>
          cases rvs
          exact ⟨_, _, _, _, rfl, c0, c1, c2, c3⟩
        subst evs
        refine ⟨a, v0, v1, v2, v3, d0, d1, d2, d3, rfl, noTab_ext _ _ (toH2 _ _ ha (fun _ z => by cases z) fun _ _ z => by cases z), frz0 c0 O.1, frz0 c1 O.2.1, frz0 c2 O.2.2.1, frz0 c3 O.2.2.2.1, O, fun b eb hisl => ?_⟩
        subst eb
        cases d3 with
        | lst l =>
          cases c3 with
          | lst hb rb =>
            refine ⟨nHp (newL _ _ hb), fun z' => ?_⟩
            subst z'
            rw [hz] at hb
            cases hb
            have := sm l rfl
            have := rb.length
            omega
        | _ => cases hisl
    refine ⟨z, rfl, ⟨ts, .of z2⟩, ?_⟩
    refine for_list (xs := ts) (fun i σ' H' => Lp G H z ts w8 w9 i σ' H') ⟨len, s8, s9, frH, t2, z2, fun j t _ ht => elem j t ht⟩ (fun i σ' H' _ S => .of S.at_) (fun i t σ' H' ht S => ?_) fun σ' H' S => fin σ' H' S.len S.s8 S.s9 S.fr S.tb
    have hi : i < 35 := by rw [← tl35]; exact (List.getElem?_eq_some_iff.mp ht).1
    refine loop_turn hi ht S fun H'' S' => ⟨true, rfl, ?_⟩
    exact Eq.mpr (if_neg (by decide)) S'
end Toy

set_option Elab.async false
set_option linter.all false
set_option maxRecDepth 100000
set_option maxHeartbeats 1000000
namespace Toy
open PySem PySem.Spec PyProof.Rows L2 VS
def SlV (G : Gx) (F : Hp) (σ : L2.St) (i : Nat) (s : Sl) : Prop := s = .no ∨ ∃ d v, s = .val d ∧ σ[i]? = some (some v) ∧ Rep G F v d
def AllS (G : Gx) (F : Hp) (σ : L2.St) : Nat → Rho → Prop
  | _, [] => True
  | i, s :: r => SlV G F σ i s ∧ AllS G F σ (i + 1) r
theorem AllS.get {G : Gx} {F : Hp} {σ : L2.St} : ∀ {ρ : Rho} {i j : Nat} {s : Sl}, AllS G F σ i ρ → ρ[j]? = some s → SlV G F σ (i + j) s
  | [], _, _, _, _, h => by simp at h
  | x :: r, i, 0, s, a, h => by
    have h : some x = some s := h
    cases h
    exact a.1
  | x :: r, i, j + 1, s, a, h => by
    have := AllS.get (j := j) a.2 (by simpa using h)
    rw [show i + (j + 1) = i + 1 + j by omega]
    exact this
theorem okA {G : Gx} {H : Hp} {σ : L2.St} {ρ : Rho} (t : LamX.Tabs G.T H) (len : σ.length = ρ.length) (a : AllS G (noTab H) σ 0 ρ) : Ok ⟨G, noTab H, H, []⟩ (noTab H) H σ ρ :=
  ok_vals noTab_ext (noTab_tb t) len fun i s e => by
    have := a.get e
    rw [Nat.zero_add] at this
    exact this
theorem ok_bor {G : Gx} {F H : Hp} {σ : L2.St} {ρ : Rho} {pb : Addr} {us : List V} {xs : List D} (e : Ext F H) (tb : TbOk G.T F H) (len : σ.length = ρ.length + 1) (h0 : σ[0]? = some (some (.ref pb))) (f0 : F pb = none) (hp : H pb = some (.lst us)) (r : Reps G F us xs) (a : AllS G F σ 1 ρ) :
    Ok ⟨G, F, H, [pb]⟩ F H σ (.bor xs :: ρ) where
  len := by rw [len]; rfl
  f0 := Ext.rfl'
  fh := e
  fr := fun q o e _ _ => e
  al := fun q o e => ⟨o, e⟩
  n0 := fun q o _ n => n
  sl := fun j s' e => by
    cases j with
    | zero =>
      have e : some (Sl.bor xs) = some s' := e
      cases e
      exact ⟨_, h0, pb, rfl, List.mem_singleton.mpr rfl, f0, us, hp, r⟩
    | succ j =>
      have e : ρ[j]? = some s' := by simpa using e
      have hl : j < ρ.length := (List.getElem?_eq_some_iff.mp e).1
      have hs : j + 1 < σ.length := by omega
      have := a.get e
      rw [Nat.add_comm] at this
      rcases this with z | ⟨d, v, z, h1, h2⟩
      · subst z
        refine ⟨σ[j + 1], by rw [List.getElem?_eq_getElem hs], ?_⟩
        cases σ[j + 1] <;> trivial
      · subst z
        exact ⟨some v, h1, h2⟩
  ap := fun i j s t p q hi hj ms mt _ _ _ => by
    have go : ∀ i s, (Sl.bor xs :: ρ)[i]? = some s → s.mut = true → i = 0 := fun i s h m => by
      cases i with
      | zero => rfl
      | succ i =>
        rcases a.get (show ρ[i]? = some s by simpa using h) with z | ⟨d, v, z, _, _⟩ <;> subst z <;> cases m
    rw [go i s hi ms, go j t hj mt]
  hb := fun q hq => ⟨.lst us, by have e : q = pb := List.mem_singleton.mp hq; subst e; exact hp⟩
  tb := tb
theorem strs_inv {G : Gx} {F : Hp} : ∀ {L : List Str} {vs : List V}, Reps G F vs (L.map .str) → vs = L.map V.str
  | [], _, .nil => rfl
  | x :: L, _, .cons r q => by
    cases r
    rw [strs_inv q]; rfl
abbrev namesD (L : List Str) : D := .lst (L.map .str)
abbrev stpOf (nm : Str) (p q : Int) (gs : List Str) : D := .ins 0 [.str nm, .int p, .int q, .tup (gs.map .str)]
abbrev dueOf (nm : Str) (p q : Int) (x : D) : D := .tup [.str nm, .int p, .int q, x]
structure RF (xs : List D) (L gs : List Str) (nm : Str) (p q : Int) (xs1 xs2 xs3 xs5 : List D) (oth stp2 : D) (s10 : Sl) (r11 r12 r13 : Rho) (b0 c : Bool) : Prop where
  hnm : NmOk nm
  hp : 1 ≤ p ∧ p ≤ 1000
  hq : 0 ≤ q ∧ q ≤ 1000
  hg : ∀ y ∈ gs, NmOk y
  gl : gs.length ≤ 4
  f1 : law_right_hb_1 [.bor xs, .no, .no, .no, .no, .no, .no, .no, .no, .no, .no, .no, .no, .no] = some (.nx, [.bor xs1, .val (namesD L), .no, .no, .no, .no, .no, .no, .no, .no, .no, .no, .no, .no])
  f2 : law_right_hb_2 [.bor xs1, .val (namesD L), .no, .no, .no, .no, .no, .no, .no, .no, .no, .no, .no, .no] = some (.nx, [.bor xs2, .val (namesD L), .val (.str nm), .val (.int p), .val (.int q), .no, .no, .no, .no, .no, .no, .no, .no, .no])
  f3 : law_right_hb_3 [.bor xs2, .val (namesD L), .val (.str nm), .val (.int p), .val (.int q), .no, .no, .no, .no, .no, .no, .no, .no, .no] = some (.nx, [.bor xs3, .val (namesD L), .val (.str nm), .val (.int p), .val (.int q), .own (gs.map .str), .no, .no, .no, .no, .no, .no, .no, .no])
  f4 : law_right_hb_4 [.bor xs3, .val (namesD L), .val (.str nm), .val (.int p), .val (.int q), .own (gs.map .str), .no, .no, .no, .no, .no, .no, .no, .no] = some (.nx, [.bor xs3, .val (namesD L), .val (.str nm), .val (.int p), .val (.int q), .own (gs.map .str), .no, .val (namesD gs), .no, .no, .no, .no, .no, .no])
  f5 : ∀ pk, law_right_hb_5 [.no, .no, .val (.str nm), .val (.int p), .val (.int q), .val (namesD gs), .no, .val (.adr pk), .no, .no, .no, .no, .no, .no] = some ([stpOf nm p q gs, dueOf nm p q (.adr pk)], [.no, .no, .val (.str nm), .val (.int p), .val (.int q), .val (namesD gs), .no, .val (.adr pk), .no, .no, .no, .no, .no, .no])
  f6 : law_right_hb_6 [.no, .no, .no, .no, .no, .val (namesD gs), .no, .val (namesD gs), .val (stpOf nm p q gs), .val (dueOf nm p q (namesD gs)), .no, .no, .no, .no] = some (false, [.no, .no, .no, .no, .no, .val (namesD gs), .no, .val (namesD gs), .val (stpOf nm p q gs), .val (dueOf nm p q (namesD gs)), .no, .no, .no, .no])
  f8 : law_right_hb_8 [.no, .no, .no, .no, .no, .no, .no, .no, .val (stpOf nm p q gs), .no, .no, .no, .no, .no] = some (namesD gs, [.no, .no, .no, .no, .no, .no, .no, .no, .val (stpOf nm p q gs), .no, .no, .no, .no, .no])
  f9 : law_right_hb_9 [.no, .no, .no, .no, .no, .no, .no, .no, .val (stpOf nm p q gs), .val (dueOf nm p q (namesD gs)), .no, .no, .no, .no] = some (false, [.no, .no, .no, .no, .no, .no, .no, .no, .val (stpOf nm p q gs), .val (dueOf nm p q (namesD gs)), .no, .no, .no, .no])
  f11 : law_right_hb_11 [.bor xs3, .val (namesD L), .val (.str nm), .val (.int p), .val (.int q), .no, .no, .val (namesD gs), .val (stpOf nm p q gs), .val (dueOf nm p q (namesD gs)), .no, .no, .no, .no] = some (.nx, r11)
  f12 : law_right_hb_12 r11 = some (.nx, r12)
  f13 : law_right_hb_13 r12 = some (.nx, r13)
  f14 : law_right_hb_14 r13 = some (.nx, [.bor xs5, .val (namesD L), .val (.str nm), .val (.int p), .val (.int q), .no, .no, .val (namesD gs), .val (stpOf nm p q gs), .val (dueOf nm p q (namesD gs)), s10, .val oth, .no, .no])
  f15 : law_right_hb_15 [.no, .no, .no, .no, .no, .no, .no, .no, .no, .val (dueOf nm p q (namesD gs)), .no, .val oth, .no, .no] = some (.bl b0, [.no, .no, .no, .no, .no, .no, .no, .no, .no, .val (dueOf nm p q (namesD gs)), .no, .val oth, .no, .no])
  f16 : law_right_hb_16 [.no, .no, .no, .no, .no, .no, .no, .val (namesD gs), .no, .no, .no, .val oth, .no, .no] = some (c, [.no, .no, .no, .no, .no, .no, .no, .val (namesD gs), .no, .no, .no, .val oth, .no, .no])
  f18 : law_right_hb_18 [.no, .no, .no, .no, .no, .no, .no, .no, .no, .no, .no, .val oth, .no, .no] = some (stp2, [.no, .no, .no, .no, .no, .no, .no, .no, .no, .no, .no, .val oth, .no, .no])
  f19 : law_right_hb_19 [.no, .no, .no, .no, .no, .no, .no, .no, .val (stpOf nm p q gs), .val (dueOf nm p q (namesD gs)), .no, .no, .val (.bl (b0 && !c)), .val stp2] = some (false, [.no, .no, .no, .no, .no, .no, .no, .no, .val (stpOf nm p q gs), .val (dueOf nm p q (namesD gs)), .no, .no, .val (.bl (b0 && !c)), .val stp2])
  f24 : law_right_hb_24 [.no, .no, .no, .no, .no, .no, .no, .no, .val (stpOf nm p q gs), .val (dueOf nm p q (namesD gs)), .no, .no, .no, .no] = some (.bl true, [.no, .no, .no, .no, .no, .no, .no, .no, .val (stpOf nm p q gs), .val (dueOf nm p q (namesD gs)), .no, .no, .no, .no])
def RightFacts (Pu : List D → Prop) : Prop := ∀ xs, Pu xs → ∃ L gs nm p q xs1 xs2 xs3 xs5 oth stp2 s10 r11 r12 r13 b0 c, RF xs L gs nm p q xs1 xs2 xs3 xs5 oth stp2 s10 r11 r12 r13 b0 c
def spRight (G : Gx) (Pu : List D → Prop) : Sp := fun vs H Q _ => ∃ (pb : Addr) (us : List V) (xs : List D), vs = [.ref pb] ∧ H pb = some (.lst us) ∧ Reps G (nL H) us xs ∧ Pu xs ∧ LamX.Tabs G.T H ∧
  ∀ H', (∀ q o, H q = some o → NT o → q ≠ pb → H' q = some o) → LamX.Tabs G.T H' → Q (.bl true) H'
theorem law_right_len' {G : Gx} {Pu : List D → Prop} : ∀ us H Q E, spRight G Pu us H Q E → us.length = 1 := fun us H Q E ⟨_, _, _, e, _⟩ => by subst e; rfl
theorem stp_pl (nm : Str) (p q : Int) (gs : List Str) : plnDs [stpOf nm p q gs] = true ∧ lstss [stpOf nm p q gs] = [] := by
  have go : ∀ L : List Str, plnDs (L.map .str) = true ∧ lstss (L.map .str) = [] := fun L => by
    induction L with
    | nil => exact ⟨by simp [plnDs], by simp [lstss]⟩
    | cons x l ih => exact ⟨by simp [plnDs, plnD, ih.1], by simp [lstss, lsts, ih.2]⟩
  obtain ⟨a, b⟩ := go gs
  exact ⟨by simp [plnDs, plnD, a], by simp [lstss, lsts, b]⟩
theorem strs_pl02 (L : List Str) : plnDs (L.map .str) = true ∧ lstss (L.map .str) = [] := by
  induction L with
  | nil => exact ⟨by simp [plnDs], by simp [lstss]⟩
  | cons x l ih => exact ⟨by simp [plnDs, plnD, ih.1], by simp [lstss, lsts, ih.2]⟩
end Toy

set_option Elab.async false
set_option linter.all false
set_option maxRecDepth 100000
set_option maxHeartbeats 2000000
namespace Toy
open PySem PySem.Spec PyProof.Rows L2 VS
section
variable {G : Gx} {xs : List D} {L gs : List Str} {nm : Str} {p q : Int} {xs1 xs2 xs3 xs5 : List D} {oth stp2 : D} {s10 : Sl} {r11 r12 r13 : Rho} {b0 c : Bool}
theorem right_rest (R : RF xs L gs nm p q xs1 xs2 xs3 xs5 oth stp2 s10 r11 r12 r13 b0 c) {σ : L2.St} {H : Hp} {E : Ends} {pk : Addr} {w8 w9 w11 : V} (len : σ.length = 14) (s2 : σ[2]? = some (some (.str nm))) (s3 : σ[3]? = some (some (.int p))) (s4 : σ[4]? = some (some (.int q))) (s7 : σ[7]? = some (some (.ref pk)))
    (s8 : σ[8]? = some (some w8)) (s9 : σ[9]? = some (some w9)) (s11 : σ[11]? = some (some w11)) (tb : LamX.Tabs G.T H) (hpk : H pk = some (.lst (gs.map V.str))) (r8 : Rep G (noTab H) w8 (stpOf nm p q gs)) (r9 : Rep G (noTab H) w9 (dueOf nm p q (namesD gs))) (r11' : Rep G (noTab H) w11 oth)
    (fin : ∀ H', VS.Fr H H' → LamX.Tabs G.T H' → E.rt (.bl true) H') :
    tSeq (tAsg (vtQ G law_right_hb_15) (gName 12)) (tSeq (tIfS (vbQ G law_right_hb_16) (tAsg (vtQ G law_right_hb_17) (gName 12)) tNext) (tSeq (tAsg (vtQ G law_right_hb_18) (gName 13)) (tSeq (tIfS (vbQ G law_right_hb_19) (vsQ G law_right_hb_20) tNext)
      (tSeq (tFor (iList G.K (tLockE (vtQ G law_right_hb_21))) (gName 6) (tIfS (fun σ H Q => tCall (spRef G) [] E0 (vaQ G law_right_hb_22) σ H fun x H1 => ∃ b, x = V.bl b ∧ Q (!b) H1) (vsQ G law_right_hb_23) tNext)) (tRet (vtQ G law_right_hb_24)))))) E σ H := by
  -- same
  refine ⟨_, rfl, _, _, okA (ρ := [.no, .no, .no, .no, .no, .no, .no, .no, .no, .val (dueOf nm p q (namesD gs)), .no, .val oth, .no, .no]) tb len ⟨.inl rfl, .inl rfl, .inl rfl, .inl rfl, .inl rfl, .inl rfl, .inl rfl, .inl rfl, .inl rfl, .inr ⟨_, _, rfl, s9, r9⟩, .inl rfl, .inr ⟨_, _, rfl, s11, r11'⟩, .inl rfl, .inl rfl, trivial⟩, _, _, R.f15, fun v H1 F1 x1 I1 rv => ?_⟩
  have ev : v = .bl b0 := by cases rv; rfl
  subst ev
  have f1 : VS.Fr H H1 := I1.fr'
  have t1 := I1.tb.t
  -- what follows, whatever same is
  have rest : ∀ (σ' : L2.St) (H2 : Hp), σ'.length = 14 → (∀ j : Nat, j ≠ 12 → σ'[j]? = σ[j]?) → σ'[12]? = some (some (.bl (b0 && !c))) → VS.Fr H H2 → LamX.Tabs G.T H2 →
      tSeq (tAsg (vtQ G law_right_hb_18) (gName 13)) (tSeq (tIfS (vbQ G law_right_hb_19) (vsQ G law_right_hb_20) tNext)
      (tSeq (tFor (iList G.K (tLockE (vtQ G law_right_hb_21))) (gName 6) (tIfS (fun σ H Q => tCall (spRef G) [] E0 (vaQ G law_right_hb_22) σ H fun x H1 => ∃ b, x = V.bl b ∧ Q (!b) H1) (vsQ G law_right_hb_23) tNext)) (tRet (vtQ G law_right_hb_24)))) E σ' H2 := fun σ' H2 len' st s12 f2 t2 => by
    refine ⟨_, rfl, _, _, okA (ρ := [.no, .no, .no, .no, .no, .no, .no, .no, .no, .no, .no, .val oth, .no, .no]) t2 len' ⟨.inl rfl, .inl rfl, .inl rfl, .inl rfl, .inl rfl, .inl rfl, .inl rfl, .inl rfl, .inl rfl, .inl rfl, .inl rfl, .inr ⟨_, _, rfl, (st 11 (by decide)).trans s11, r11'.toN (noTab_fr f2)⟩, .inl rfl, .inl rfl, trivial⟩, _, _, R.f18, fun v13 H3 F3 x3 I3 rv => ?_⟩
    have f3 : VS.Fr H H3 := f2.trans I3.fr'
    have t3 := I3.tb.t
    have r13' : Rep G (noTab H3) v13 stp2 := rv.toN (ext_fr I3.fh)
    have st3 : ∀ (j : Nat), j ≠ 13 → (σ'.set 13 (some v13))[j]? = σ'[j]? := fun j hj => List.getElem?_set_ne (fun z => hj z.symm)
    have s13 : (σ'.set 13 (some v13))[13]? = some (some v13) := List.getElem?_set_self (by rw [len']; decide)
    have l3 : (σ'.set 13 (some v13)).length = 14 := by rw [List.length_set]; exact len'
    have g : ∀ (j : Nat), j ≠ 12 → j ≠ 13 → (σ'.set 13 (some v13))[j]? = σ[j]? := fun j h h' => (st3 j h').trans (st j h)
    refine ⟨_, rfl, _, _, okA (ρ := [.no, .no, .no, .no, .no, .no, .no, .no, .val (stpOf nm p q gs), .val (dueOf nm p q (namesD gs)), .no, .no, .val (.bl (b0 && !c)), .val stp2]) t3 l3 ⟨.inl rfl, .inl rfl, .inl rfl, .inl rfl, .inl rfl, .inl rfl, .inl rfl, .inl rfl, .inr ⟨_, _, rfl, (g 8 (by decide) (by decide)).trans s8, r8.toN (noTab_fr f3)⟩, .inr ⟨_, _, rfl, (g 9 (by decide) (by decide)).trans s9, r9.toN (noTab_fr f3)⟩, .inl rfl, .inl rfl, .inr ⟨_, _, rfl, (st3 12 (by decide)).trans s12, .bl _⟩, .inr ⟨_, _, rfl, s13, r13'⟩, trivial⟩, _, _, R.f19, fun H4 F4 x4 I4 => ?_⟩
    refine Eq.mpr (if_neg (by decide)) ?_
    have f4 : VS.Fr H H4 := f3.trans I4.fr'
    have t4 := I4.tb.t
    refine loop_all R.hnm R.hp R.hq R.hg R.gl l3 ((g 2 (by decide) (by decide)).trans s2) ((g 3 (by decide) (by decide)).trans s3) ((g 4 (by decide) (by decide)).trans s4) ((g 7 (by decide) (by decide)).trans s7) ((g 8 (by decide) (by decide)).trans s8) ((g 9 (by decide) (by decide)).trans s9) t4 (f4 _ _ hpk nt_lst) fun σ5 H5 l5 g8 g9 f5 t5 => ?_
    have f5 : VS.Fr H H5 := f4.trans f5
    exact ⟨_, rfl, _, _, okA (ρ := [.no, .no, .no, .no, .no, .no, .no, .no, .val (stpOf nm p q gs), .val (dueOf nm p q (namesD gs)), .no, .no, .no, .no]) t5 l5 ⟨.inl rfl, .inl rfl, .inl rfl, .inl rfl, .inl rfl, .inl rfl, .inl rfl, .inl rfl, .inr ⟨_, _, rfl, g8, r8.toN (noTab_fr f5)⟩, .inr ⟨_, _, rfl, g9, r9.toN (noTab_fr f5)⟩, .inl rfl, .inl rfl, .inl rfl, .inl rfl, trivial⟩, _, _, R.f24, fun v H6 F6 x6 I6 rv => by cases rv; exact fin H6 (f5.trans I6.fr') I6.tb.t⟩
  have st1 : ∀ (j : Nat), j ≠ 12 → (σ.set 12 (some (V.bl b0)))[j]? = σ[j]? := fun j hj => List.getElem?_set_ne (fun z => hj z.symm)
  have s12 : (σ.set 12 (some (V.bl b0)))[12]? = some (some (.bl b0)) := List.getElem?_set_self (by rw [len]; decide)
  have l1 : (σ.set 12 (some (V.bl b0))).length = 14 := by rw [List.length_set]; exact len
  refine ⟨_, rfl, _, _, okA (ρ := [.no, .no, .no, .no, .no, .no, .no, .val (namesD gs), .no, .no, .no, .val oth, .no, .no]) t1 l1 ⟨.inl rfl, .inl rfl, .inl rfl, .inl rfl, .inl rfl, .inl rfl, .inl rfl, .inr ⟨_, _, rfl, (st1 7 (by decide)).trans s7, .lst (noTab_of (f1 _ _ hpk nt_lst) nt_lst) (strs_reps02 G _ gs)⟩, .inl rfl, .inl rfl, .inl rfl, .inr ⟨_, _, rfl, (st1 11 (by decide)).trans s11, r11'.toN (noTab_fr f1)⟩, .inl rfl, .inl rfl, trivial⟩, _, _, R.f16, fun H2 F2 x2 I2 => ?_⟩
  have f2 : VS.Fr H H2 := f1.trans I2.fr'
  have t2 := I2.tb.t
  cases hc : c with
  | false =>
    refine Eq.mpr (if_neg (by simp [hc])) ?_
    exact rest _ H2 l1 st1 (by rw [s12, hc]; simp) f2 t2
  | true =>
    refine Eq.mpr (if_pos (by simp [hc])) ?_
    refine ⟨_, rfl, _, _, okA (ρ := [.no, .no, .no, .no, .no, .no, .no, .no, .no, .no, .no, .no, .no, .no]) t2 l1 ⟨.inl rfl, .inl rfl, .inl rfl, .inl rfl, .inl rfl, .inl rfl, .inl rfl, .inl rfl, .inl rfl, .inl rfl, .inl rfl, .inl rfl, .inl rfl, .inl rfl, trivial⟩, .bl false, _, rfl, fun v H3 F3 x3 I3 rv => ?_⟩
    have ev : v = .bl false := by cases rv; rfl
    subst ev
    refine rest _ H3 (by rw [List.length_set]; exact l1) (fun j hj => (List.getElem?_set_ne (fun z => hj z.symm)).trans (st1 j hj)) ?_ (f2.trans I3.fr') I3.tb.t
    rw [hc]
    simp only [Bool.not_true, Bool.and_false]
    exact List.getElem?_set_self (by rw [l1]; decide)
end
end Toy

set_option Elab.async false
set_option linter.all false
set_option maxRecDepth 100000
set_option maxHeartbeats 2000000
namespace Toy
open PySem PySem.Spec PyProof.Rows L2 VS
theorem law_right_ok' {G : Gx} {Pu : List D → Prop} (W : RightFacts Pu) : ∀ us H Q E, spRight G Pu us H Q E → law_right_T G (spRef G) { nx := fun _ H1 => Q .non H1, rt := Q } (L2.start N_law_right us) H := by
  intro us0 H Q E ⟨pb, us, xs, eu, hpb, rus, hPu, tb, q⟩
  subst eu
  obtain ⟨L, gs, nm, p, q', xs1, xs2, xs3, xs5, oth, stp2, s10, r11, r12, r13, b0, c, R⟩ := W xs hPu
  -- names, the drawn step
  have I0 : Ok ⟨G, noP [pb] H, H, [pb]⟩ (noP [pb] H) H (L2.start N_law_right [.ref pb]) [.bor xs, .no, .no, .no, .no, .no, .no, .no, .no, .no, .no, .no, .no, .no] :=
    ok_bor (ρ := [.no, .no, .no, .no, .no, .no, .no, .no, .no, .no, .no, .no, .no]) noP_ext (noP_tb tb) rfl rfl (noP_in (List.mem_singleton.mpr rfl)) hpb (rus.toN (nL_noP fun p hp => by rw [List.mem_singleton.mp hp]; exact ⟨us, hpb⟩))
      ⟨.inl rfl, .inl rfl, .inl rfl, .inl rfl, .inl rfl, .inl rfl, .inl rfl, .inl rfl, .inl rfl, .inl rfl, .inl rfl, .inl rfl, .inl rfl, trivial⟩
  refine seq_go rfl I0 R.f1 fun σ1 H1 F1 x1 I1 => ?_
  refine seq_go rfl I1 R.f2 fun σ2 H2 F2 x2 I2 => ?_
  refine seq_go rfl I2 R.f3 fun σ3 H3 F3 x3 I3 => ?_
  refine seq_go rfl I3 R.f4 fun σ4 H4 F4 x4 I4 => ?_
  -- what stands now
  obtain ⟨ov0, a0, b0'⟩ := I4.sl 0 _ rfl
  obtain ⟨v1, a1, r1⟩ := I4.valAt (i := 1) rfl
  obtain ⟨v2, a2, r2⟩ := I4.valAt (i := 2) rfl
  obtain ⟨v3, a3, r3⟩ := I4.valAt (i := 3) rfl
  obtain ⟨v4, a4, r4⟩ := I4.valAt (i := 4) rfl
  obtain ⟨ov5, a5, b5⟩ := I4.sl 5 _ rfl
  obtain ⟨v7, a7, r7⟩ := I4.valAt (i := 7) rfl
  cases ov0 with
  | none => exact b0'.elim
  | some v0 =>
  obtain ⟨pb', ev0, hb', fb, us4, hb4, rus4⟩ := b0'
  have epb : pb' = pb := List.mem_singleton.mp hb'
  subst epb
  subst ev0
  cases ov5 with
  | none => exact b5.elim
  | some v5 =>
  obtain ⟨pg, ev5, hg0, fg, zs, hg4, rzs⟩ := b5
  subst ev5
  have ezs := strs_inv rzs
  subst ezs
  have e2 : v2 = .str nm := by cases r2; rfl
  have e3 : v3 = .int p := by cases r3; rfl
  have e4 : v4 = .int q' := by cases r4; rfl
  subst e2 e3 e4
  have l4 : σ4.length = 14 := I4.len
  have t4 := I4.tb.t
  have pgb : pg ≠ pb' := fun z => by
    have := I4.ap 5 0 _ _ _ _ rfl rfl rfl rfl a5 a0 z
    cases this
  cases r7 with
  | @lst pk ks _ hk7 rk7 =>
  have eks := strs_inv rk7
  subst eks
  cases r1 with
  | @lst pn ls _ hn1 rn1 =>
  have pkg : pk ≠ pg := fun z => by subst z; rw [fg] at hk7; cases hk7
  have pkb : pk ≠ pb' := fun z => by subst z; rw [fb] at hk7; cases hk7
  have png : pn ≠ pg := fun z => by subst z; rw [fg] at hn1; cases hn1
  have pnb : pn ≠ pb' := fun z => by subst z; rw [fb] at hn1; cases hn1
  have hk4 : H4 pk = some (.lst (gs.map V.str)) := I4.fh _ _ hk7
  have frE : ∀ q o, H q = some o → NT o → q ≠ pb' → H4 q = some o := fun b o e n nb => I4.fr b o e (fun z => nb (List.mem_singleton.mp z)) n
  -- the step, what is due
  have J4 : Ok ⟨G, noTab H4, H4, []⟩ (noTab H4) H4 σ4 [.no, .no, .val (.str nm), .val (.int p), .val (.int q'), .val (namesD gs), .no, .val (.adr pk), .no, .no, .no, .no, .no, .no] :=
    okA t4 l4 ⟨.inl rfl, .inl rfl, .inr ⟨_, _, rfl, a2, .str _⟩, .inr ⟨_, _, rfl, a3, .int _⟩, .inr ⟨_, _, rfl, a4, .int _⟩, .inr ⟨_, _, rfl, a5, .lst (noTab_of hg4 nt_lst) (strs_reps02 G _ gs)⟩, .inl rfl, .inr ⟨_, _, rfl, a7, .adr _⟩, .inl rfl, .inl rfl, .inl rfl, .inl rfl, .inl rfl, .inl rfl, trivial⟩
  refine ⟨_, rfl, _, _, J4, _, _, R.f5 pk, fun ws H5 F5 x5 I5 rws => ?_⟩
  have f45 : VS.Fr H4 H5 := I5.fr'
  have t5 := I5.tb.t
  obtain ⟨vm, vd, ews, rm, rd⟩ : ∃ vm vd, ws = [vm, vd] ∧ Rep G F5 vm (stpOf nm p q' gs) ∧ Rep G F5 vd (dueOf nm p q' (.adr pk)) := by
    cases rws with
    | cons c0 rws =>
    cases rws with
    | cons c1 rws =>
    cases rws
    exact ⟨_, _, rfl, c0, c1⟩
  subst ews
  refine ⟨vm, vd, rfl, ?_⟩
  have rmN : Reps G (nL H5) [vm] [stpOf nm p q' gs] := (Reps.one rm).nl I5.fh (stp_pl nm p q' gs).1 (stp_pl nm p q' gs).2
  have mk1 : ∀ {F : Hp} {v : V} {d : D}, Reps G F [v] [d] → Rep G F v d := fun h => by cases h with | cons a _ => exact a
  have rmn : Rep G (nL H5) vm (stpOf nm p q' gs) := mk1 rmN
  cases rd with
  | @tup ad ws' _ had rws' =>
  have ews' : ws' = [.str nm, .int p, .int q', .ref pk] := by
    cases rws' with
    | cons c0 k =>
    cases k with
    | cons c1 k =>
    cases k with
    | cons c2 k =>
    cases k with
    | cons c3 k =>
    cases k
    cases c0; cases c1; cases c2; cases c3; rfl
  subst ews'
  have had5 : H5 ad = some (.tup [.str nm, .int p, .int q', .ref pk]) := I5.fh _ _ had
  have hk5 := f45 _ _ hk4 nt_lst
  have hg5 := f45 _ _ hg4 nt_lst
  have hb5 := f45 _ _ hb4 nt_lst
  have nLt : ∀ {K : Hp}, VS.Fr (nL K) (noTab K) := fun {K} b o e n => noTab_of (rsA_ext b o e) n
  have dueR : ∀ {K : Hp}, K ad = some (.tup [.str nm, .int p, .int q', .ref pk]) → K pk = some (.lst (gs.map V.str)) → Rep G (noTab K) (.ref ad) (dueOf nm p q' (namesD gs)) := fun {K} h1 h2 =>
    .tup (noTab_of h1 fun _ z => by cases z) (.cons (.str _) (.cons (.int _) (.cons (.int _) (.cons (.lst (noTab_of h2 nt_lst) (strs_reps02 G _ gs)) .nil))))
  generalize hσ5 : (σ4.set 8 (some vm)).set 9 (some (V.ref ad)) = σ5
  have l5 : σ5.length = 14 := by rw [← hσ5, List.length_set, List.length_set]; exact l4
  have st5 : ∀ (j : Nat), j ≠ 8 → j ≠ 9 → σ5[j]? = σ4[j]? := fun j h h' => by
    rw [← hσ5]
    exact (List.getElem?_set_ne (fun z => h' z.symm)).trans (List.getElem?_set_ne (fun z => h z.symm))
  have s8 : σ5[8]? = some (some vm) := by
    rw [← hσ5, List.getElem?_set_ne (by decide)]
    exact List.getElem?_set_self (by rw [l4]; decide)
  have s9 : σ5[9]? = some (some (.ref ad)) := by
    rw [← hσ5]
    exact List.getElem?_set_self (by rw [List.length_set, l4]; decide)
  -- as given
  refine ⟨_, rfl, _, _, okA (ρ := [.no, .no, .no, .no, .no, .val (namesD gs), .no, .val (namesD gs), .val (stpOf nm p q' gs), .val (dueOf nm p q' (namesD gs)), .no, .no, .no, .no]) t5 l5 ⟨.inl rfl, .inl rfl, .inl rfl, .inl rfl, .inl rfl, .inr ⟨_, _, rfl, (st5 5 (by decide) (by decide)).trans a5, .lst (noTab_of hg5 nt_lst) (strs_reps02 G _ gs)⟩, .inl rfl, .inr ⟨_, _, rfl, (st5 7 (by decide) (by decide)).trans a7, .lst (noTab_of hk5 nt_lst) (strs_reps02 G _ gs)⟩, .inr ⟨_, _, rfl, s8, rmn.toN nLt⟩, .inr ⟨_, _, rfl, s9, dueR had5 hk5⟩, .inl rfl, .inl rfl, .inl rfl, .inl rfl, trivial⟩, _, _, R.f6, fun H6 F6 x6 I6 => ?_⟩
  refine Eq.mpr (if_neg (by decide)) ?_
  have f56 : VS.Fr H5 H6 := I6.fr'
  have t6 := I6.tb.t
  have hg6 := f56 _ _ hg5 nt_lst
  -- given.append
  refine ⟨pg, gs.map V.str, (st5 5 (by decide) (by decide)).trans a5, hg6, ?_, ?_⟩
  · rw [List.length_map]
    exact Nat.lt_of_le_of_lt R.gl (by rw [sizeLine_eq]; decide)
  generalize hH7 : upd H6 pg (.lst (gs.map V.str ++ [.str "x"])) = H7
  have n7 : ∀ {b : Addr}, b ≠ pg → H7 b = H6 b := fun h => by rw [← hH7]; exact upd_ne h
  have t7 : LamX.Tabs G.T H7 := by rw [← hH7]; exact tabs_upd t6 hg6 nt_lst nc_lst
  have adg : ad ≠ pg := fun z => by subst z; rw [hg5] at had5; cases had5
  have had7 : H7 ad = some (.tup [.str nm, .int p, .int q', .ref pk]) := (n7 adg).trans (f56 _ _ had5 fun _ z => by cases z)
  have hk7' : H7 pk = some (.lst (gs.map V.str)) := (n7 pkg).trans (f56 _ _ hk5 nt_lst)
  have n67 : VS.Fr (nL H6) (nL H7) := nL_to fun b o e n nl => (n7 (fun z => by subst z; rw [hg6] at e; exact nl _ (Option.some.inj e).symm)).trans e
  have rm7 : Rep G (nL H7) vm (stpOf nm p q' gs) := (rmn.toN (nL_fr f56)).toN n67
  have f47 : ∀ b o, H4 b = some o → NT o → b ≠ pg → H7 b = some o := fun b o e n nb => (n7 nb).trans (f56 _ _ (f45 _ _ e n) n)
  -- made.reads.append
  have J7 : Ok ⟨G, noTab H7, H7, []⟩ (noTab H7) H7 σ5 [.no, .no, .no, .no, .no, .no, .no, .no, .val (stpOf nm p q' gs), .no, .no, .no, .no, .no] :=
    okA t7 l5 ⟨.inl rfl, .inl rfl, .inl rfl, .inl rfl, .inl rfl, .inl rfl, .inl rfl, .inl rfl, .inr ⟨_, _, rfl, s8, rm7.toN nLt⟩, .inl rfl, .inl rfl, .inl rfl, .inl rfl, .inl rfl, trivial⟩
  have spl : plnD (stpOf nm p q' gs) = true ∧ lsts (stpOf nm p q' gs) = [] := by
    obtain ⟨a, b⟩ := strs_pl02 gs
    exact ⟨by simp [plnD, plnDs, a], by simp [lsts, lstss, b]⟩
  obtain ⟨gp1, gp2⟩ := strs_pl02 gs
  refine vtQ_new J7 rfl (by show (plnD (stpOf nm p q' gs) && true) = true; rw [spl.1]; rfl) (fun i s e => match i, e with
      | 0, e => by cases e; exact .inl rfl
      | 1, e => by cases e; exact .inl rfl
      | 2, e => by cases e; exact .inl rfl
      | 3, e => by cases e; exact .inl rfl
      | 4, e => by cases e; exact .inl rfl
      | 5, e => by cases e; exact .inl rfl
      | 6, e => by cases e; exact .inl rfl
      | 7, e => by cases e; exact .inl rfl
      | 8, e => by cases e; exact .inr ⟨_, rfl⟩
      | 9, e => by cases e; exact .inl rfl
      | 10, e => by cases e; exact .inl rfl
      | 11, e => by cases e; exact .inl rfl
      | 12, e => by cases e; exact .inl rfl
      | 13, e => by cases e; exact .inl rfl
      | i + 14, e => by simp at e) R.f8 (fun l h => by
        have h : l ∈ lsts (stpOf nm p q' gs) ++ [] := h
        rw [spl.2] at h
        cases h) gp1 gp2 fun pr zr H8 hr0 hr8 f78 _ t8 rzr => ?_
  refine ⟨pr, zr, rfl, hr8, by rw [rzr.length, List.length_map]; exact Nat.lt_of_le_of_lt R.gl (by rw [sizeLine_eq]; decide), ?_⟩
  generalize hH9 : upd H8 pr (.lst (zr ++ [.str "y"])) = H9
  have f79 : VS.Fr H7 H9 := fun b o e n => by
    have nb : b ≠ pr := fun z => by subst z; rw [hr0] at e; cases e
    rw [← hH9, upd_ne nb]
    exact f78 _ _ e n
  have t9 : LamX.Tabs G.T H9 := by rw [← hH9]; exact tabs_upd t8 hr8 nt_lst nc_lst
  have had9 := f79 _ _ had7 (fun _ z => by cases z)
  have hk9 := f79 _ _ hk7' nt_lst
  have rm9 : Rep G (nL H9) vm (stpOf nm p q' gs) := rm7.toN (nL_fr f79)
  -- as before
  refine ⟨_, rfl, _, _, okA (ρ := [.no, .no, .no, .no, .no, .no, .no, .no, .val (stpOf nm p q' gs), .val (dueOf nm p q' (namesD gs)), .no, .no, .no, .no]) t9 l5 ⟨.inl rfl, .inl rfl, .inl rfl, .inl rfl, .inl rfl, .inl rfl, .inl rfl, .inl rfl, .inr ⟨_, _, rfl, s8, rm9.toN nLt⟩, .inr ⟨_, _, rfl, s9, dueR had9 hk9⟩, .inl rfl, .inl rfl, .inl rfl, .inl rfl, trivial⟩, _, _, R.f9, fun HA FA xA IA => ?_⟩
  refine Eq.mpr (if_neg (by decide)) ?_
  have f9A : VS.Fr H9 HA := IA.fr'
  have tA := IA.tb.t
  have f4A : ∀ b o, H4 b = some o → NT o → b ≠ pg → HA b = some o := fun b o e n nb => f9A _ _ (f79 _ _ (f47 b o e n nb) n) n
  have hadA := f9A _ _ had9 (fun _ z => by cases z)
  have hkA := f9A _ _ hk9 nt_lst
  have rmA : Rep G (nL HA) vm (stpOf nm p q' gs) := rm9.toN (nL_fr f9A)
  have hbA : HA pb' = some (.lst us4) := f4A _ _ hb4 nt_lst (Ne.symm pgb)
  have f4P : VS.Fr F4 (noP [pb'] HA) := fun b o e n => by
    have nb : b ≠ pb' := fun z => by subst z; rw [fb] at e; cases e
    have ng : b ≠ pg := fun z => by subst z; rw [fg] at e; cases e
    exact noP_of (f4A _ _ (I4.fh _ _ e) n ng) n fun z => nb (List.mem_singleton.mp z)
  have adb : ad ≠ pb' := fun z => by subst z; rw [hb5] at had5; cases had5
  have nP : ∀ {b : Addr}, b ≠ pb' → b ∉ [pb'] := fun h z => h (List.mem_singleton.mp z)
  -- others
  have IB : Ok ⟨G, noP [pb'] HA, HA, [pb']⟩ (noP [pb'] HA) HA σ5 [.bor xs3, .val (namesD L), .val (.str nm), .val (.int p), .val (.int q'), .no, .no, .val (namesD gs), .val (stpOf nm p q' gs), .val (dueOf nm p q' (namesD gs)), .no, .no, .no, .no] :=
    ok_bor (ρ := [.val (namesD L), .val (.str nm), .val (.int p), .val (.int q'), .no, .no, .val (namesD gs), .val (stpOf nm p q' gs), .val (dueOf nm p q' (namesD gs)), .no, .no, .no, .no]) noP_ext (noP_tb tA) l5 ((st5 0 (by decide) (by decide)).trans a0) (noP_in (List.mem_singleton.mpr rfl)) hbA (rus4.toN f4P)
      ⟨.inr ⟨_, _, rfl, (st5 1 (by decide) (by decide)).trans a1, (Rep.lst hn1 rn1).toN f4P⟩, .inr ⟨_, _, rfl, (st5 2 (by decide) (by decide)).trans a2, .str _⟩, .inr ⟨_, _, rfl, (st5 3 (by decide) (by decide)).trans a3, .int _⟩, .inr ⟨_, _, rfl, (st5 4 (by decide) (by decide)).trans a4, .int _⟩, .inl rfl, .inl rfl,
        .inr ⟨_, _, rfl, (st5 7 (by decide) (by decide)).trans a7, .lst (noP_of hkA nt_lst (nP pkb)) (strs_reps02 G _ gs)⟩, .inr ⟨_, _, rfl, s8, rmA.toN (nL_noP fun x hx => by rw [List.mem_singleton.mp hx]; exact ⟨us4, hbA⟩)⟩,
        .inr ⟨_, _, rfl, s9, .tup (noP_of hadA (fun _ z => by cases z) (nP adb)) (.cons (.str _) (.cons (.int _) (.cons (.int _) (.cons (.lst (noP_of hkA nt_lst (nP pkb)) (strs_reps02 G _ gs)) .nil))))⟩, .inl rfl, .inl rfl, .inl rfl, .inl rfl, trivial⟩
  refine seq_go rfl IB R.f11 fun σB1 HB1 FB1 xB1 IB1 => ?_
  refine seq_go rfl IB1 R.f12 fun σB2 HB2 FB2 xB2 IB2 => ?_
  refine seq_go rfl IB2 R.f13 fun σB3 HB3 FB3 xB3 IB3 => ?_
  refine seq_go rfl IB3 R.f14 fun σC HC FC xC IC => ?_
  obtain ⟨c2, k2, y2⟩ := IC.valAt (i := 2) rfl
  obtain ⟨c3, k3, y3⟩ := IC.valAt (i := 3) rfl
  obtain ⟨c4, k4, y4⟩ := IC.valAt (i := 4) rfl
  obtain ⟨c7, k7, y7⟩ := IC.valAt (i := 7) rfl
  obtain ⟨c8, k8, y8⟩ := IC.valAt (i := 8) rfl
  obtain ⟨c9, k9, y9⟩ := IC.valAt (i := 9) rfl
  obtain ⟨c11, k11, y11⟩ := IC.valAt (i := 11) rfl
  have g2 : c2 = .str nm := by cases y2; rfl
  have g3 : c3 = .int p := by cases y3; rfl
  have g4 : c4 = .int q' := by cases y4; rfl
  subst g2 g3 g4
  have toC : VS.Fr FC (noTab HC) := ext_fr IC.fh
  have fAC : ∀ b o, HA b = some o → NT o → b ≠ pb' → HC b = some o := fun b o e n nb => IC.fr b o e (nP nb) n
  have lC : σC.length = 14 := IC.len
  cases y7 with
  | @lst pk2 ks2 _ hk2 rk2 =>
  have eks2 := strs_inv rk2
  subst eks2
  refine right_rest R lC k2 k3 k4 k7 k8 k9 k11 IC.tb.t (IC.fh _ _ hk2) (y8.toN toC) (y9.toN toC) (y11.toN toC) fun H' fC tC => q H' (fun b o e n nb => ?_) tC
  have ng : b ≠ pg := fun z => by
    subst z
    have hg0 : H b = none := hg0
    rw [hg0] at e
    cases e
  exact fC _ _ (fAC _ _ (f4A _ _ (frE _ _ e n nb) n ng) n nb) n
end Toy

set_option Elab.async false
set_option linter.all false
set_option maxRecDepth 100000
set_option maxHeartbeats 2000000
namespace Toy
open PySem PySem.Spec PyProof.Rows L2 VS
def Pu0 (xs : List D) : Prop := PuB 0 xs
theorem pu_pl {xs : List D} (h : Pu0 xs) : plnDs xs = true ∧ lstss xs = [] := by
  obtain ⟨a, b, c, rfl, _⟩ := h
  exact ⟨by simp [plnDs, plnD], by simp [lstss, lsts]⟩
theorem iR_len02 {a : SA} {ρ ρ' : Rho} {n : Nat} (h : a ρ = some ([.int (n : Nat)], ρ')) (hn : n ≤ 1000) : iR a ρ = some (rng 0 n, ρ') := by
  unfold iR
  simp only [h]
  rw [if_pos ⟨by omega, by omega⟩, Int.toNat_natCast]
theorem rng_len02 {n : Nat} : (rng 0 n).length = n := by unfold rng; rw [List.length_map, List.length_range]
theorem law_all' (W : RightFacts Pu0) {G : Gx} : LawOk G (spRight G Pu0) := by
  intro us0 H Q E ⟨a, ns, e, hs, hl, tb, q⟩
  subst e
  have okS : ∀ {σ : L2.St} {K : Hp}, LamX.Tabs G.T K → SqL G.K K a (ns.map V.int) → σ.length = 2 → σ[0]? = some (some (.ref a)) → Ok ⟨G, noTab K, K, []⟩ (noTab K) K σ [.val (.scr (ns.map .int)), .no] := fun {σ K} t s l h =>
    okA t l ⟨.inr ⟨_, _, rfl, h, .scr (sqL_noTab s) (reps_ints ns)⟩, .inl rfl, trivial⟩
  have sqF : ∀ {K K' : Hp} {a : Addr}, VS.Fr K K' → SqL G.K K a (ns.map V.int) → SqL G.K K' a (ns.map V.int) := fun {K K' a} f h => by
    rcases h with (h | ⟨o, h⟩) | h
    · exact .inl (.inl (f _ _ h nt_lst))
    · exact .inl (.inr ⟨o, f _ _ h fun _ z => by cases z⟩)
    · exact .inr h
  refine ⟨_, _, _, rfl, okS tb hs rfl rfl, rng 0 6, _, iR_len02 (n := 6) rfl (by decide), fun F1 H1 x1 I1 => ⟨fun i σ' H' => i ≤ 6 ∧ σ'.length = 2 ∧ (∃ a, σ'[0]? = some (some (.ref a)) ∧ SqL G.K H' a (ns.map V.int)) ∧ LamX.Tabs G.T H', ⟨by decide, rfl, ⟨a, rfl, sqF I1.fr' hs⟩, I1.tb.t⟩, fun i σ2 H2 ⟨hi, l2, ⟨a2, h2, s2⟩, t2⟩ => ⟨by rw [rng_len02]; exact hi, ?_⟩⟩⟩
  have J2 : Ok ⟨G, noTab H2, H2, []⟩ (noTab H2) H2 σ2 [.val (.scr (ns.map .int)), .no] := okA t2 l2 ⟨.inr ⟨_, _, rfl, h2, .scr (sqL_noTab s2) (reps_ints ns)⟩, .inl rfl, trivial⟩
  refine ⟨_, _, _, rfl, J2, fun _ => ?_, fun d hd => ⟨_, rfl, fun F3 H3 σ3 x3 I3 => ?_⟩⟩
  · exact ⟨_, rfl, _, _, J2, .rt (.bl true), _, rfl, fun v σ' H' F' x I' r => by cases r; exact q H'⟩
  · obtain ⟨hlt, rfl⟩ := rng_get hd
    rw [show ((0 : Int) + (i : Nat)) = ((i : Nat) : Int) by omega] at I3
    obtain ⟨xs, e1, hP⟩ := law_purse_eq ns i
    have I3 : Ok ⟨G, noTab H2, H2, []⟩ F3 H3 σ3 [.val (.scr (ns.map .int)), .val (.int (i : Nat))] := I3
    obtain ⟨v0, a0, r0⟩ := I3.valAt (i := 0) rfl
    cases r0 with
    | @scr a3 vs3 _ hs3 rs3 =>
    have ev3 : vs3 = ns.map V.int := by
      have go : ∀ (l : List Int) (vs : List V), Reps G F3 vs (l.map .int) → vs = l.map V.int := fun l => by
        induction l with
        | nil => intro vs h; cases h; rfl
        | cons x l ih =>
          intro vs h
          cases h with
          | cons c d => cases c; rw [ih _ d]; rfl
      exact go ns vs3 rs3
    subst ev3
    have s3 : SqL G.K H3 a3 (ns.map V.int) := hs3.ext I3.fh
    refine ⟨_, rfl, _, _, I3, [.scr (ns.map .int), .int (i : Nat)], _, rfl, fun vs H4 F4 x4 I4 rs => ?_⟩
    show spM G 2 m_law_purse (vs ++ []) H4 _ _
    rw [List.append_nil]
    refine ⟨F4, _, I4.fh, I4.tb, rs, rfl, xs, e1, fun pb us H5 F5 k5 hn _ hp rp => ?_⟩
    obtain ⟨pl1, pl2⟩ := pu_pl hP
    refine ⟨pb, us, xs, rfl, hp, rp.nl k5.fh pl1 pl2, hP, (k5.t I4.tb).t, fun H6 f6 t6 => ⟨true, rfl, ?_⟩⟩
    refine Eq.mpr (if_neg (by decide)) ?_
    have s4 : SqL G.K H4 a3 (ns.map V.int) := hs3.ext (x4.trans I4.fh)
    have go : ∀ o, H4 a3 = some o → NT o → H6 a3 = some o := fun o e n => by
      have nb : a3 ≠ pb := fun z => by subst z; rw [hn] at e; cases e
      exact f6 _ _ (k5.h _ _ e List.not_mem_nil n) n nb
    refine ⟨by omega, I3.len, ⟨a3, a0, ?_⟩, t6⟩
    rcases s4 with (h | ⟨o, h⟩) | h
    · exact .inl (.inl (go _ h nt_lst))
    · exact .inl (.inr ⟨o, go _ h fun _ z => by cases z⟩)
    · exact .inr h
end Toy

set_option Elab.async false
set_option linter.all false
set_option maxRecDepth 100000
set_option maxHeartbeats 2000000
namespace Toy
open PySem PySem.Spec PyProof.Rows L2 VS
theorem str_dec (x y : Str) : (x == y) = decide (x = y) := by
  by_cases h : x = y
  · subst h; simp
  · rw [decide_eq_false h]
    exact beq_eq_false_iff_ne.mpr h
theorem eqv_strs : ∀ l m : List Str, PyData.eqvAll (l.map .str) (m.map .str) = decide (l = m)
  | [], [] => rfl
  | [], _ :: _ => rfl
  | _ :: _, [] => rfl
  | a :: l, b :: m => by
    show ((a == b) && PyData.eqvAll (l.map .str) (m.map .str)) = _
    rw [eqv_strs l m, str_dec]
    by_cases h : a = b
    · subst h
      by_cases h2 : l = m
      · subst h2; simp
      · rw [decide_eq_false h2, decide_eq_false fun e => h2 (List.cons.inj e).2]; simp
    · rw [decide_eq_false h, decide_eq_false fun e => h (List.cons.inj e).1]; rfl
theorem toP_strs (L : List Str) : toP (.lst (L.map .str)) = some (.list (L.map .str)) := by
  show (match toPs (L.map .str) with | some ys => some (PyData.list ys) | none => none) = _
  rw [toPs_strs]
theorem sh_strs {L : List Str} (h : ∀ x ∈ L, NmOk x) : SeqAt.shaped (.list (L.map .str)) = true := by
  unfold SeqAt.shaped
  have c : (PyData.list (L.map .str)).canLay0 = true := lay_strs L fun x hx => nm_str (h x hx)
  have d : (PyData.list (L.map .str)).depth ≤ 64 := by
    have := depth_strs L
    simp only [PyData.depth]
    omega
  rw [c, decide_eq_true d]; rfl
theorem gNe_strs {L M : List Str} (h : ∀ x ∈ L, NmOk x) (k : ∀ x ∈ M, NmOk x) : gNe (.lst (L.map .str)) (.lst (M.map .str)) = some (.bl (!decide (L = M))) := by
  unfold gNe eqD
  have sc : scalE (.lst (L.map .str)) (.lst (M.map .str)) = none := rfl
  rw [sc, toP_strs, toP_strs]
  dsimp only
  rw [if_pos ⟨sh_strs h, sh_strs k⟩]
  show some (D.bl (!PyData.eqvAll (L.map .str) (M.map .str))) = _
  rw [eqv_strs]
theorem int_dec (i j : Int) : (i == j) = decide (i = j) := by
  by_cases h : i = j
  · subst h; simp
  · rw [decide_eq_false h]; exact beq_eq_false_iff_ne.mpr h
abbrev P3 (a : Str) (b e : Int) : PyData := .tuple [.str a, .int b, .int e]
abbrev P4 (a : Str) (b e : Int) (L : List Str) : PyData := .tuple [.str a, .int b, .int e, .list (L.map .str)]
theorem sh3 {a : Str} {b e : Int} (h : NmOk a) : SeqAt.shaped (P3 a b e) = true := by
  unfold SeqAt.shaped
  have c : (P3 a b e).canLay0 = true := by
    show (PyData.strOk a && (true && (true && true))) = true
    rw [nm_str h]; rfl
  have d : (P3 a b e).depth ≤ 64 := by simp only [PyData.depth, PyData.depthAll]; omega
  rw [c, decide_eq_true d]; rfl
theorem sh4 {a : Str} {b e : Int} {L : List Str} (h : NmOk a) (k : ∀ x ∈ L, NmOk x) : SeqAt.shaped (P4 a b e L) = true := by
  unfold SeqAt.shaped
  have c : (P4 a b e L).canLay0 = true := by
    show (PyData.strOk a && (true && (true && (PyData.canLayAll0 (L.map .str) && true)))) = true
    rw [nm_str h, lay_strs L fun x hx => nm_str (k x hx)]; rfl
  have d : (P4 a b e L).depth ≤ 64 := by
    have := depth_strs L
    simp only [PyData.depth, PyData.depthAll]
    omega
  rw [c, decide_eq_true d]; rfl
theorem toP3 (a : Str) (b e : Int) : toP (.tup [.str a, .int b, .int e]) = some (P3 a b e) := rfl
theorem toP4 (a : Str) (b e : Int) (L : List Str) : toP (dueOf a b e (namesD L)) = some (P4 a b e L) := by
  have q : toPs [.str a, .int b, .int e, namesD L] = some [.str a, .int b, .int e, .list (L.map .str)] := by
    simp only [toPs, toP, toPs_strs]
  show (match toPs [.str a, .int b, .int e, namesD L] with | some ys => some (PyData.tuple ys) | none => none) = _
  rw [q]
def E3 (a a' : Str) (b b' e e' : Int) : Bool := decide (a = a') && (decide (b = b') && decide (e = e'))
theorem gEq3 {a a' : Str} {b b' e e' : Int} (h : NmOk a) (k : NmOk a') : gEq (.tup [.str a, .int b, .int e]) (.tup [.str a', .int b', .int e']) = some (.bl (E3 a a' b b' e e')) := by
  unfold gEq eqD
  have sc : scalE (.tup [.str a, .int b, .int e]) (.tup [.str a', .int b', .int e']) = none := rfl
  rw [sc, toP3, toP3]
  dsimp only
  rw [if_pos ⟨sh3 h, sh3 k⟩]
  show some (D.bl ((a == a') && ((b == b') && ((e == e') && true)))) = _
  rw [str_dec, int_dec, int_dec, Bool.and_true]
  rfl
theorem eq4 {a a' : Str} {b b' e e' : Int} {L M : List Str} (h : NmOk a) (k : NmOk a') (hL : ∀ x ∈ L, NmOk x) (hM : ∀ x ∈ M, NmOk x) : eqD (dueOf a b e (namesD L)) (dueOf a' b' e' (namesD M)) = some (E3 a a' b b' e e' && decide (L = M)) := by
  unfold eqD
  have sc : scalE (dueOf a b e (namesD L)) (dueOf a' b' e' (namesD M)) = none := rfl
  rw [sc, toP4, toP4]
  dsimp only
  rw [if_pos ⟨sh4 h hL, sh4 k hM⟩]
  show some ((a == a') && ((b == b') && ((e == e') && (PyData.eqvAll (L.map .str) (M.map .str) && true)))) = _
  rw [str_dec, int_dec, int_dec, eqv_strs, Bool.and_true]
  unfold E3
  congr 1
  cases decide (a = a') <;> cases decide (b = b') <;> cases decide (e = e') <;> rfl
theorem sort_ok {L : List Str} (h : ∀ x ∈ L, NmOk x) : ∀ x ∈ ssort L, NmOk x := fun x hx => h x ((ssort_perm L).mem_iff.mp hx)
theorem gSort_eq {L : List Str} (h : L.length < 64) : gSortS [.lst (L.map .str)] = some (.lst ((ssort L).map .str)) := by
  unfold gSortS
  simp only [strs_map, h, if_true]
theorem step_eq {a a' : Str} {b b' e e' : Int} {L M : List Str} (h : NmOk a) (k : NmOk a') (hL : ∀ x ∈ L, NmOk x) (hM : ∀ x ∈ M, NmOk x) (l1 : L.length < 64) (l2 : M.length < 64) :
    m_Step_eq [.val (stpOf a b e L), .val (stpOf a' b' e' M)] = some (.bl (E3 a a' b b' e e' && decide (ssort L = ssort M)), []) := by
  have c1 : cLoop (.nm 3) bYes (sL gStr (aC (sV 3) aN)) (L.map .str) [.val (stpOf a b e L), .val (stpOf a' b' e' M), .no, .no] = some (L.map .str, [.val (stpOf a b e L), .val (stpOf a' b' e' M), .no, .no]) :=
    cLoop_map (g := D.str) (f := D.str) (ds := L) fun x hx => turnC_m02 (ρ1 := [.val (stpOf a b e L), .val (stpOf a' b' e' M), .no, .val (.str x)]) rfl rfl (sL_of (aC_of rfl rfl) rfl) rfl
  have c2 : cLoop (.nm 3) bYes (sL gStr (aC (sV 3) aN)) (M.map .str) [.val (stpOf a b e L), .val (stpOf a' b' e' M), .val (dueOf a b e (namesD (ssort L))), .no] = some (M.map .str, [.val (stpOf a b e L), .val (stpOf a' b' e' M), .val (dueOf a b e (namesD (ssort L))), .no]) :=
    cLoop_map (g := D.str) (f := D.str) (ds := M) fun x hx => turnC_m02 (ρ1 := [.val (stpOf a b e L), .val (stpOf a' b' e' M), .val (dueOf a b e (namesD (ssort L))), .val (.str x)]) rfl rfl (sL_of (aC_of rfl rfl) rfl) rfl
  have ll : ∀ {Q : List Str}, Q.length < 64 → (Q.map D.str).length ≤ LN := fun h => by rw [List.length_map]; exact Nat.le_trans (Nat.le_of_lt h) (by decide)
  have iT : ∀ {s : SE} {ρ ρ1 : Rho} {xs : List D}, s ρ = some (.tup xs, ρ1) → iTupl s ρ = some (xs, ρ1) := fun {s ρ ρ1 xs} h => by unfold iTupl; rw [h]
  refine mir_rt (ρ0 := [_, _, _, _]) rfl (kS_nx (ρ1 := [.val (stpOf a b e L), .val (stpOf a' b' e' M), .no, .no]) (kIf_f (bNot_of (v := true) (sB_of rfl)) rfl)
    (kS_nx (ρ1 := [.val (stpOf a b e L), .val (stpOf a' b' e' M), .val (dueOf a b e (namesD (ssort L))), .no]) (kSet_to' (sL_of (aC_of rfl (aC_of rfl (aC_of rfl (aC_of (sL_of (aC_of (sComp_of (iT (s1_of rfl rfl)) c1 (ll l1)) rfl) (gSort_eq l1)) rfl)))) rfl) rfl)
    (kRet_of (s2_of rfl (sL_of (aC_of rfl (aC_of rfl (aC_of rfl (aC_of (sL_of (aC_of (sComp_of (iT (s1_of rfl rfl)) c2 (ll l2)) rfl) (gSort_eq l2)) rfl)))) rfl) ?_)))) rfl
  show gEq (dueOf a b e (namesD (ssort L))) (dueOf a' b' e' (namesD (ssort M))) = _
  unfold gEq
  rw [eq4 h k (sort_ok hL) (sort_ok hM)]
  rfl
end Toy

set_option Elab.async false
set_option linter.all false
set_option maxRecDepth 100000
set_option maxHeartbeats 8000000
namespace Toy
open PySem PySem.Spec PyProof.Rows L2 VS
def unl : Str := "unlike"
theorem names_un : (wordsL.all fun w => (List.range 26).all fun j => decide (w ++ letter j ≠ unl)) = true := by decide +kernel
theorem unl_ok : NmOk unl := by unfold NmOk unl; kernel_rfl
theorem law_names2 {k n : Nat} {xs : List D} (h : PuB k xs) (hk : k ≤ 500000) (hn : n ≤ 4) : ∃ (L : List Str) (ys : List D), m_law_names [.bor xs, .val (.int (n : Nat))] = some (.lst (L.map .str), ys) ∧ L.length = n ∧ L.Nodup ∧ (∀ x ∈ L, NmOk x ∧ x ≠ unl) ∧ PuB (k + 2) ys := by
  obtain ⟨f, ys, e1, l1, u1, h1⟩ := law_draw_eq (m := 26) h (by omega) (by decide) (sm_of (k := 3000) (by decide) (by decide +kernel))
  obtain ⟨fn, rfl⟩ := Int.eq_ofNat_of_zero_le l1
  obtain ⟨d, x, zs, e2, e3, h2⟩ := law_pick_eq (its := wordsL.map .str) h1 (by omega) (by decide) (by decide)
  obtain ⟨w, hw, rfl⟩ : ∃ w, w ∈ wordsL ∧ x = .str w := by
    have := List.mem_of_getElem? e3
    obtain ⟨l, a, b⟩ := List.mem_map.mp this
    exact ⟨l, a, b.symm⟩
  have fl : fn < 26 := by omega
  have nd := of_decide_eq_true (List.all_eq_true.mp (List.all_eq_true.mp names_nd w hw) fn (List.mem_range.mpr fl))
  have e4 : (List.range n).map (nmN w fn) = ((List.range 4).map (nmN w fn)).take n := by
    rw [← List.map_take, List.take_range, Nat.min_eq_left hn]
  refine ⟨(List.range n).map (nmN w fn), zs, ?_, by simp, by rw [e4]; exact nd.sublist (List.take_sublist _ _), fun x hx => ?_, h2.mono (by omega)⟩
  · have c := cLoop_map (t := .nm 5) (tt := bYes) (e := s2 gAdd (sV 3) (s2 gIx (sV 4) (s2 gSub (s2 gAdd (sV 2) (s2 gMul (sK (.int 3)) (sV 5))) (s2 gMul (s2 gFdiv (s2 gAdd (sV 2) (s2 gMul (sK (.int 3)) (sV 5))) (sK (.int 26))) (sK (.int 26))))))
      (ρ := [.bor zs, .val (.int (n : Nat)), .val (.int (fn : Nat)), .val (.str w), .val (.str alph), .no]) (g := fun i : Nat => D.int (0 + (i : Nat))) (f := fun i => D.str (nmN w fn i)) (ds := List.range n) fun i hi => by
        have il : i < n := List.mem_range.mp hi
        have b3 : Bd 3 := (sm60 (by decide) (by decide)).bd (by decide)
        have bi : Bd (0 + (i : Int)) := (sm60 (by omega) (by omega)).bd (by decide)
        have b26 : Bd 26 := (sm60 (by decide) (by decide)).bd (by decide)
        have bq : Bd (((fn : Int) + 3 * (0 + (i : Int))) / 26) := (sm60 (by omega) (by omega)).bd (by decide)
        have p26 : (0 : Int) < 26 := by decide
        have mo : (fn : Int) + 3 * (0 + (i : Int)) - ((fn : Int) + 3 * (0 + (i : Int))) / 26 * 26 = (((fn + 3 * i) % 26 : Nat) : Int) := by omega
        have ml : (fn + 3 * i) % 26 < 26 := Nat.mod_lt _ (by decide)
        have ad : gAdd (.str w) (.str (letter ((fn + 3 * i) % 26))) = some (.str (nmN w fn i)) := by
          have q := of_decide_eq_true (List.all_eq_true.mp (List.all_eq_true.mp words_ln w hw) _ (List.mem_range.mpr ml))
          exact if_pos q
        simp only [turnC, okT, Tg.ix, List.all_cons, List.all_nil, List.getElem?_cons_succ, List.getElem?_cons_zero, Bool.and_true, if_true, blkR, wipeR, toB, List.map_cons, List.map_nil, tgt, List.set_cons_succ, List.set_cons_zero, bYes, s2, sV, sK, gMul_eq b3 bi, gAdd_eq, gFdiv_eq p26 b26, gMul_eq bq b26, gSub_eq, mo, letter_eq ml, ad, restore, Option.map_some]
    have l : ((List.range n).map fun i => D.str (nmN w fn i)).length ≤ LN := by
      rw [List.length_map, List.length_range]
      exact Nat.le_trans hn (by decide)
    have w1 : ((List.range n).map (nmN w fn)).map D.str = (List.range n).map fun i => D.str (nmN w fn i) := by rw [List.map_map]; rfl
    rw [w1]
    have e2' : m_law_pick [.bor ys, .val (.lst [.str "", .str "a", .str "zz", .str "step", .str "runner", .str "qqqqqqq"])] = some (.str w, zs) := e2
    have g6 : VS.gLst [.str "", .str "a", .str "zz", .str "step", .str "runner", .str "qqqqqqq"] = some (.lst [.str "", .str "a", .str "zz", .str "step", .str "runner", .str "qqqqqqq"]) := by
      unfold VS.gLst
      rw [if_pos (by decide)]
    have sm : small62 ((n : Nat) : Int) := ⟨by omega, by omega⟩
    have it : iR (aC (sV 1) aN) [.bor zs, .val (.int (n : Nat)), .val (.int (fn : Nat)), .val (.str w), .val (.str alph), .no] = some ((List.range n).map fun i : Nat => D.int (0 + (i : Nat)), [.bor zs, .val (.int (n : Nat)), .val (.int (fn : Nat)), .val (.str w), .val (.str alph), .no]) := by
      simp only [iR, aC, aN, sV, List.getElem?_cons_zero, List.getElem?_cons_succ, sm, if_true, Int.toNat_natCast, rng]
    refine mir_rt (ρ0 := [.bor xs, .val (.int (n : Nat)), .no, .no, .no, .no]) (ρ := [.bor zs, .val (.int (n : Nat)), .val (.int (fn : Nat)), .val (.str w), .val (.str alph), .no]) rfl ?_ rfl
    refine kS_nx (ρ1 := [.bor zs, .val (.int (n : Nat)), .val (.int (fn : Nat)), .val (.str w), .no, .no]) (kTup_of (sL_of (aC_of (callM rfl (aC_of rfl rfl) rfl rfl e1 rfl) (aC_of (callM rfl (aC_of (sL_of (aC_of rfl (aC_of rfl (aC_of rfl (aC_of rfl (aC_of rfl (aC_of rfl rfl)))))) g6) rfl) rfl rfl e2' rfl) rfl)) gTup2) rfl) ?_
    refine kS_nx (ρ1 := [.bor zs, .val (.int (n : Nat)), .val (.int (fn : Nat)), .val (.str w), .val (.str alph), .no]) (kSet_to' rfl rfl) ?_
    exact kRet_of (sComp_of it c l)
  · obtain ⟨i, _, rfl⟩ := List.mem_map.mp hx
    exact ⟨isOk_nm (List.all_eq_true.mp (List.all_eq_true.mp names_ok w hw) _ (List.mem_range.mpr (Nat.mod_lt _ (by decide)))), of_decide_eq_true (List.all_eq_true.mp (List.all_eq_true.mp names_un w hw) _ (List.mem_range.mpr (Nat.mod_lt _ (by decide))))⟩

theorem pick_names02 : ∀ (L : List Str) (k : Nat) (xs : List D) (a1 a2 a3 a4 : D), PuB k xs → k + L.length ≤ 500000 → ∃ (R : List Str) (ys : List D), R.Sublist L ∧
    cLoop (.nm 6) (sB (s2 gEq (sCallM 2 m_law_draw 0 (aC (sK (.int 2)) aN)) (sK (.int 0)))) (sV 6) (L.map .str) [.bor xs, .val a1, .val a2, .val a3, .val a4, .no, .no, .no, .no, .no, .no, .no, .no, .no] =
      some (R.map .str, [.bor ys, .val a1, .val a2, .val a3, .val a4, .no, .no, .no, .no, .no, .no, .no, .no, .no]) ∧ PuB (k + L.length) ys
  | [], k, xs, a1, a2, a3, a4, h, _ => ⟨[], xs, List.Sublist.refl _, rfl, h⟩
  | x :: L, k, xs, a1, a2, a3, a4, h, hk => by
    obtain ⟨d, ys, e1, l1, u1, h1⟩ := law_draw_eq (m := 2) h (by simp at hk; omega) (by decide) (sm_of (k := 3000) (by decide) (by decide +kernel))
    obtain ⟨R, zs, sl, e2, h2⟩ := pick_names02 L (k + 1) ys a1 a2 a3 a4 h1 (by simp at hk; omega)
    have hp : PuB (k + (x :: L).length) zs := h2.mono (by simp; omega)
    have e1' : m_law_draw (.bor xs :: [.val (.int 2)]) = some (.int d, ys) := e1
    by_cases z : d = 0
    · refine ⟨x :: R, zs, sl.cons₂ x, ?_, hp⟩
      have g : gEq (.int d) (.int 0) = some (.bl true) := by rw [gEq_int, decide_eq_true z]
      have t : turnC (.nm 6) (sB (s2 gEq (sCallM 2 m_law_draw 0 (aC (sK (.int 2)) aN)) (sK (.int 0)))) (sV 6) (.str x) [.bor xs, .val a1, .val a2, .val a3, .val a4, .no, .no, .no, .no, .no, .no, .no, .no, .no] = some (some (.str x), [.bor ys, .val a1, .val a2, .val a3, .val a4, .no, .no, .no, .no, .no, .no, .no, .no, .no]) := by
        simp only [turnC, okT, Tg.ix, List.all_cons, List.all_nil, List.getElem?_cons_succ, List.getElem?_cons_zero, Bool.and_true, if_true, blkR, wipeR, toB, List.map_cons, List.map_nil, tgt, List.set_cons_succ, List.set_cons_zero, sB, s2, sCallM, conM, aC, aN, sK, sV, List.length_cons, List.length_nil, Nat.zero_add, Nat.reduceAdd, e1', setM, g, restore, Option.map_some]
      rw [List.map_cons]
      unfold cLoop
      rw [t]
      simp only [e2, List.map_cons]
    · refine ⟨R, zs, sl.cons x, ?_, hp⟩
      have g : gEq (.int d) (.int 0) = some (.bl false) := by rw [gEq_int, decide_eq_false z]
      have t : turnC (.nm 6) (sB (s2 gEq (sCallM 2 m_law_draw 0 (aC (sK (.int 2)) aN)) (sK (.int 0)))) (sV 6) (.str x) [.bor xs, .val a1, .val a2, .val a3, .val a4, .no, .no, .no, .no, .no, .no, .no, .no, .no] = some (none, [.bor ys, .val a1, .val a2, .val a3, .val a4, .no, .no, .no, .no, .no, .no, .no, .no, .no]) := by
        simp only [turnC, okT, Tg.ix, List.all_cons, List.all_nil, List.getElem?_cons_succ, List.getElem?_cons_zero, Bool.and_true, if_true, blkR, wipeR, toB, List.map_cons, List.map_nil, tgt, List.set_cons_succ, List.set_cons_zero, sB, s2, sCallM, conM, aC, aN, sK, sV, List.length_cons, List.length_nil, Nat.zero_add, Nat.reduceAdd, e1', setM, g, restore, Option.map_some]
      rw [List.map_cons]
      unfold cLoop
      rw [t]
      simp only [e2]
end Toy

set_option Elab.async false
set_option linter.all false
set_option maxRecDepth 100000
set_option maxHeartbeats 4000000
namespace Toy
open PySem PySem.Spec PyProof.Rows L2 VS
theorem gL02 {xs : List D} (h : xs.length ≤ LN) : VS.gLst xs = some (.lst xs) := by unfold VS.gLst; rw [if_pos h]
theorem gT02 {xs : List D} (h : xs.length ≤ LN) : VS.gTup xs = some (.tup xs) := by unfold VS.gTup; rw [if_pos h]
theorem sMake_02 {t nf n : Nat} {m : Mir} {a : SA} {ρ ρ1 : Rho} {xs out : List D} (h : a ρ = some (xs, ρ1)) (hn : xs.length + 1 = n) (hm : m (.slf t [] :: xs.map .val) = some (.non, out)) (ho : out.length = nf) : sMake t nf n m a ρ = some (.ins t out, ρ1) := by
  unfold sMake; simp only [h, hn, hm, ho, if_true]
theorem mt2_02 {t : Nat} {m : Mir} {a b : SE} {ρ ρ1 ρ2 : Rho} {x y d : D} {o : List D} (h : a ρ = some (x, ρ1)) (h2 : b ρ1 = some (y, ρ2)) (i : isI t x = true) (j : isI t y = true) (hm : m [.val x, .val y] = some (d, o)) : sMt2 t m a b ρ = some (d, ρ2) := by
  unfold sMt2; simp only [h, h2, i, j, and_self, if_true, hm]
theorem mtA_02 {t : Nat} {m : Mir} {a b : SE} {ρ ρ1 ρ2 : Rho} {x y d : D} {o : List D} (h : a ρ = some (x, ρ1)) (h2 : b ρ1 = some (y, ρ2)) (i : isI t x = true) (j : isNT y = true) (hm : m [.val x, .val y] = some (d, o)) : sMtA t m a b ρ = some (d, ρ2) := by
  unfold sMtA; simp only [h, h2, i, j, and_self, if_true, hm]
theorem fields_eq (nm : Str) (p q : Int) (gs : List Str) : m_law_fields [.val (stpOf nm p q gs)] = some (dueOf nm p q (namesD gs), []) := rfl
theorem step_tup (nm : Str) (p q : Int) (gs : List Str) (l : List D) : m_Step_eq [.val (stpOf nm p q gs), .val (.tup l)] = some (.bl false, []) := rfl
theorem step_non (nm : Str) (p q : Int) (gs : List Str) : m_Step_eq [.val (stpOf nm p q gs), .val .non] = some (.bl false, []) := rfl
theorem E3_self (a : Str) (b e : Int) : E3 a a b b e e = true := by unfold E3; simp
theorem E3_symm (a a' : Str) (b b' e e' : Int) : E3 a a' b b' e e' = E3 a' a b' b e' e := by
  unfold E3
  congr 1
  · exact decide_eq_decide.mpr ⟨Eq.symm, Eq.symm⟩
  · congr 1
    · exact decide_eq_decide.mpr ⟨Eq.symm, Eq.symm⟩
    · exact decide_eq_decide.mpr ⟨Eq.symm, Eq.symm⟩
theorem gNe_bl (a b : Bool) : gNe (.bl a) (.bl b) = some (.bl (!decide (a = b))) := rfl
theorem gEq_bl (a b : Bool) : gEq (.bl a) (.bl b) = some (.bl (decide (a = b))) := rfl
structure Oth (oth : D) (a : Str) (b e : Int) (hs : List Str) : Prop where
  eq : oth = dueOf a b e (namesD hs)
  a : NmOk a
  b : 1 ≤ b
  e : 0 ≤ e
  h : ∀ x ∈ hs, NmOk x
  nd : hs.Nodup
  l : hs.length ≤ 5
theorem init_eq {a : Str} {b e : Int} {hs : List Str} (h1 : NmOk a) (h2 : 1 ≤ b) (h3 : 0 ≤ e) (h4 : ∀ x ∈ hs, NmOk x) (h5 : hs.Nodup) (h6 : hs.length ≤ 5) : m_Step_init (.slf 0 [] :: [D.str a, .int b, .int e, .lst (hs.map .str)].map .val) = some (.non, [.str a, .int b, .int e, .tup (hs.map .str)]) :=
  step_init_eq (s := ⟨a, b, e, hs⟩) ⟨h1, by show 0 < b; omega, h3, h4, h5, by show hs.length ≤ 4000; omega⟩
def l7 (nm n2 : Str) (p q : Int) (gs : List Str) : List D := [dueOf nm p q (namesD gs), dueOf nm p q (.lst (gs.map .str).reverse), dueOf n2 p q (namesD gs), dueOf nm (p + 1) q (namesD gs), dueOf nm p (q + 1) (namesD gs), dueOf nm p q (.lst ((gs.map .str).drop 1)), dueOf nm p q (.lst (gs.map .str ++ [.str unl]))]
theorem cut1_02 {gs : List Str} (h : gs.length ≤ 4) : VS.cutD (gs.map D.str) (some 1) none = (gs.map D.str).drop 1 := by
  match gs, h with
  | [], _ => rfl
  | [a], _ => rfl
  | [a, b], _ => rfl
  | [a, b, c], _ => rfl
  | [a, b, c, d], _ => rfl
  | _ :: _ :: _ :: _ :: _ :: _, h => simp at h
section
variable {nm n2 : Str} {p q : Int} {gs : List Str} (hnm : NmOk nm) (hn2 : NmOk n2) (hp : 1 ≤ p) (hq : 0 ≤ q) (hg : ∀ x ∈ gs, NmOk x ∧ x ≠ unl) (nd : gs.Nodup) (gl : gs.length ≤ 4)
include hnm hn2 hp hq hg nd gl
theorem oth_of {x : D} (hx : x ∈ l7 nm n2 p q gs) : ∃ a b e hs, Oth x a b e hs := by
  have ok : ∀ x ∈ gs, NmOk x := fun x hx => (hg x hx).1
  simp only [l7, List.mem_cons, List.not_mem_nil, or_false] at hx
  rcases hx with h | h | h | h | h | h | h <;> subst h
  · exact ⟨nm, p, q, gs, rfl, hnm, hp, hq, ok, nd, by omega⟩
  · exact ⟨nm, p, q, gs.reverse, by rw [← List.map_reverse], hnm, hp, hq, fun x hx => ok x (List.mem_reverse.mp hx), (List.reverse_perm gs).nodup_iff.mpr nd, by rw [List.length_reverse]; omega⟩
  · exact ⟨n2, p, q, gs, rfl, hn2, hp, hq, ok, nd, by omega⟩
  · exact ⟨nm, p + 1, q, gs, rfl, hnm, by omega, hq, ok, nd, by omega⟩
  · exact ⟨nm, p, q + 1, gs, rfl, hnm, hp, by omega, ok, nd, by omega⟩
  · exact ⟨nm, p, q, gs.drop 1, by rw [← List.map_drop], hnm, hp, hq, fun x hx => ok x (List.mem_of_mem_drop hx), nd.sublist (List.drop_sublist _ _), by rw [List.length_drop]; omega⟩
  · refine ⟨nm, p, q, gs ++ [unl], by show dueOf nm p q (.lst (gs.map .str ++ [.str unl])) = dueOf nm p q (.lst ((gs ++ [unl]).map .str)); rw [List.map_append]; rfl, hnm, hp, hq, fun x hx => ?_, ?_, by simp; omega⟩
    · rcases List.mem_append.mp hx with z | z
      · exact ok x z
      · rw [List.mem_singleton.mp z]; exact unl_ok
    · rw [List.nodup_append]
      exact ⟨nd, by simp, fun x hx y hy e => (hg x hx).2 (e.trans (List.mem_singleton.mp hy))⟩
end
theorem kOwn_02 {i : Nat} {a : SA} {ρ ρ1 ρ2 : Rho} {xs : List D} (h : a ρ = some (xs, ρ1)) (hl : xs.length ≤ LN) (h2 : ρ1.set i (.own xs) = ρ2) : kOwn i a ρ = some (.nx, ρ2) := by
  unfold kOwn; simp only [h, hl, if_true, h2]
abbrev fr02 (xs : List D) (L gs : List Str) (nm : Str) (p q : Int) (s10 : Sl) : Rho := [.bor xs, .val (namesD L), .val (.str nm), .val (.int p), .val (.int q), .no, .no, .val (namesD gs), .val (stpOf nm p q gs), .val (dueOf nm p q (namesD gs)), s10, .no, .no, .no]
theorem facts02 : RightFacts Pu0 := by
  intro xs hPu
  obtain ⟨L, xs1, e1, l4, nd, hL, h1⟩ := law_names2 (n := 4) hPu (by omega) (by omega)
  obtain ⟨nm, n2, L', eL⟩ : ∃ nm n2 L', L = nm :: n2 :: L' := by
    match L, l4 with
    | nm :: n2 :: L', _ => exact ⟨nm, n2, L', rfl⟩
    | [_], h => simp at h
    | [], h => simp at h
  have hnm : NmOk nm := (hL nm (by rw [eL]; exact List.mem_cons_self)).1
  have hn2 : NmOk n2 := (hL n2 (by rw [eL]; exact List.mem_cons_of_mem _ List.mem_cons_self)).1
  obtain ⟨d, ys1, e2, d0, d1, h2⟩ := law_draw_eq (m := 60) h1 (by omega) (by decide) (sm_of (k := 3000) (by decide) (by decide +kernel))
  obtain ⟨j, x, xs2, e3, e3', h3⟩ := law_pick_eq (its := [.int 0, .int 7, .int 1000]) h2 (by omega) (by decide) (by decide)
  obtain ⟨q, ex, q0, q1⟩ : ∃ q : Int, x = .int q ∧ 0 ≤ q ∧ q ≤ 1000 := by
    match j, e3' with
    | 0, h => cases h; exact ⟨0, rfl, by decide, by decide⟩
    | 1, h => cases h; exact ⟨7, rfl, by decide, by decide⟩
    | 2, h => cases h; exact ⟨1000, rfl, by decide, by decide⟩
    | j + 3, h => simp at h
  subst ex
  obtain ⟨gs, xs3, sl, e4, h4⟩ := pick_names02 L _ xs2 (namesD L) (.str nm) (.int (1 + d)) (.int q) h3 (by rw [l4]; omega)
  have hg : ∀ x ∈ gs, NmOk x ∧ x ≠ unl := fun x hx => hL x (sl.subset hx)
  have ok : ∀ x ∈ gs, NmOk x := fun x hx => (hg x hx).1
  have ndg : gs.Nodup := nd.sublist sl
  have gl : gs.length ≤ 4 := by have := sl.length_le; omega
  have p1 : (1 : Int) ≤ 1 + d := by omega
  obtain ⟨i, oth, xs5, e5, e5', h5⟩ := law_pick_eq (its := l7 nm n2 (1 + d) q gs) h4 (by rw [l4]; omega) (by unfold l7; simp) (by unfold l7; simp)
  obtain ⟨a, b, e, hs, O⟩ := oth_of hnm hn2 p1 q0 hg ndg gl (List.mem_of_getElem? e5')
  obtain ⟨eo, oa, ob, oe, oh, ond, ol⟩ := O
  subst eo
  have i1 := init_eq hnm p1 q0 ok ndg (by omega)
  have i2 := init_eq oa ob oe oh ond ol
  have gnn : gNe (.lst (gs.map .str)) (.lst (gs.map .str)) = some (.bl false) := by rw [gNe_strs ok ok]; simp
  have due : eqD (dueOf nm (1 + d) q (namesD gs)) (dueOf nm (1 + d) q (namesD gs)) = some true := by rw [eq4 hnm hnm ok ok, E3_self]; simp
  have dne : gNe (dueOf nm (1 + d) q (namesD gs)) (dueOf nm (1 + d) q (namesD gs)) = some (.bl false) := by unfold gNe; rw [due]; rfl
  have deq : gEq (dueOf nm (1 + d) q (namesD gs)) (dueOf nm (1 + d) q (namesD gs)) = some (.bl true) := by unfold gEq; rw [due]; rfl
  obtain ⟨T, hT⟩ := four_show (n := 10) (by decide) (nm_sz (q := q) hnm (p := 1 + d) ⟨p1, by omega⟩ ⟨q0, q1⟩ ok gl) (p_sz (q := q) hnm (p := 1 + d) ⟨p1, by omega⟩ ⟨q0, q1⟩ ok gl) (q_sz (q := q) hnm (p := 1 + d) ⟨p1, by omega⟩ ⟨q0, q1⟩ ok gl) (ks_sz (q := q) hnm (p := 1 + d) ⟨p1, by omega⟩ ⟨q0, q1⟩ ok gl)
  have se := step_eq (b := 1 + d) (b' := b) (e := q) (e' := e) hnm oa ok oh (by omega) (by omega)
  have ll : ∀ {Q : List Str}, Q.length ≤ 5 → (Q.map D.str).length ≤ LN := fun h => by rw [List.length_map]; exact Nat.le_trans h (by decide)
  have map6 : ∀ (Q : List Str) (g o : D), cLoop (.nm 6) bYes (sL gStr (aC (sV 6) aN)) (Q.map .str) [.no, .no, .no, .no, .no, .no, .no, .val g, .no, .no, .no, .val o, .no, .no] = some (Q.map .str, [.no, .no, .no, .no, .no, .no, .no, .val g, .no, .no, .no, .val o, .no, .no]) := fun Q g o =>
    cLoop_map (g := D.str) (f := D.str) (ds := Q) fun x hx => turnC_m02 (ρ1 := [.no, .no, .no, .no, .no, .no, .val (.str x), .val g, .no, .no, .no, .val o, .no, .no]) rfl rfl (sL_of (aC_of rfl rfl) rfl) rfl
  refine ⟨L, gs, nm, 1 + d, q, xs1, xs2, xs3, xs5, dueOf a b e (namesD hs), stpOf a b e hs, .val (.lst (l7 nm n2 (1 + d) q gs)), fr02 xs3 L gs nm (1 + d) q (.own ((l7 nm n2 (1 + d) q gs).take 4)), fr02 xs3 L gs nm (1 + d) q (.own ((l7 nm n2 (1 + d) q gs).take 6)), fr02 xs3 L gs nm (1 + d) q (.own (l7 nm n2 (1 + d) q gs)), E3 a nm b (1 + d) e q, !decide (ssort hs = ssort gs), ?_⟩
  refine ⟨hnm, ⟨p1, by omega⟩, ⟨q0, q1⟩, ok, gl, ?_, ?_, ?_, rfl, ?_, ?_, rfl, ?_, ?_, ?_, ?_, ?_, ?_, ?_, ?_, ?_, ?_⟩
  · exact kSet_to' (callM rfl (aC_of rfl rfl) rfl rfl e1 rfl) rfl
  · have g0 : gIx (namesD L) (.int 0) = some (.str nm) := by
      show L2.atI (L.map D.str) ((0 : Nat) : Int) = _
      rw [atI_nat, eL]; rfl
    exact kPar_of (aC_of (s2_of rfl rfl g0) (aC_of (s2_of rfl (callM rfl (aC_of rfl rfl) rfl rfl e2 rfl) gAdd_eq) (aC_of (callM rfl (aC_of (sL_of (aC_of rfl (aC_of rfl (aC_of rfl rfl))) (gL02 (by decide))) rfl) rfl rfl e3 rfl) rfl))) rfl
  · have s : sComp (iSeq (sV 1)) (.nm 6) (sB (s2 gEq (sCallM 2 m_law_draw 0 (aC (sK (.int 2)) aN)) (sK (.int 0)))) (sV 6) [.bor xs2, .val (namesD L), .val (.str nm), .val (.int (1 + d)), .val (.int q), .no, .no, .no, .no, .no, .no, .no, .no, .no] = some (namesD gs, [.bor xs3, .val (namesD L), .val (.str nm), .val (.int (1 + d)), .val (.int q), .no, .no, .no, .no, .no, .no, .no, .no, .no]) :=
      sComp_of rfl e4 (ll (by omega))
    unfold law_right_hb_3 kOwnLc
    rw [s]
    rfl
  · intro pk
    exact aC_of (sMake_02 (aC_of rfl (aC_of rfl (aC_of rfl (aC_of rfl rfl)))) rfl i1 rfl) (aC_of (sL_of (aC_of rfl (aC_of rfl (aC_of rfl (aC_of rfl rfl)))) (gT02 (show 4 ≤ LN by decide))) rfl)
  · exact bOr_f02 (sB_of (s2_of rfl rfl gnn)) (sB_of (s2_of (sL_of (aC_of (sCall_of (aC_of rfl rfl) rfl (fields_eq nm (1 + d) q gs)) rfl) hT) (sL_of (aC_of rfl rfl) hT) (ne_str02 T)))
  · exact sB_of (s2_of (sCall_of (aC_of rfl rfl) rfl (fields_eq nm (1 + d) q gs)) rfl dne)
  · have g1 : gIx (namesD L) (.int 1) = some (.str n2) := by
      show L2.atI (L.map D.str) ((1 : Nat) : Int) = _
      rw [atI_nat, eL]; rfl
    have t4 : ∀ {w x y z : D}, VS.gTup [w, x, y, z] = some (.tup [w, x, y, z]) := gT02 (show 4 ≤ LN by decide)
    exact kOwn_02 (ρ1 := fr02 xs3 L gs nm (1 + d) q .no) (xs := (l7 nm n2 (1 + d) q gs).take 4) (aC_of rfl (aC_of (sL_of (aC_of rfl (aC_of rfl (aC_of rfl (aC_of (s1_of rfl rfl) rfl)))) t4) (aC_of (sL_of (aC_of (s2_of rfl rfl g1) (aC_of rfl (aC_of rfl (aC_of rfl rfl)))) t4) (aC_of (sL_of (aC_of rfl (aC_of (s2_of rfl rfl gAdd_eq) (aC_of rfl (aC_of rfl rfl)))) t4) rfl)))) (show 4 ≤ LN by decide) rfl
  · have t4 : ∀ {w x y z : D}, VS.gTup [w, x, y, z] = some (.tup [w, x, y, z]) := gT02 (show 4 ≤ LN by decide)
    have sl1 : sSl (sV 7) (oS (sK (.int 1))) oN (fr02 xs3 L gs nm (1 + d) q (.val (.lst ((l7 nm n2 (1 + d) q gs).take 4)))) = some (.lst ((gs.map D.str).drop 1), fr02 xs3 L gs nm (1 + d) q (.val (.lst ((l7 nm n2 (1 + d) q gs).take 4)))) := by
      have e : sSl (sV 7) (oS (sK (.int 1))) oN (fr02 xs3 L gs nm (1 + d) q (.val (.lst ((l7 nm n2 (1 + d) q gs).take 4)))) = some (.lst (VS.cutD (gs.map D.str) (some 1) none), fr02 xs3 L gs nm (1 + d) q (.val (.lst ((l7 nm n2 (1 + d) q gs).take 4)))) := rfl
      rw [e, cut1_02 gl]
    have s1 : (sV 10) (fr02 xs3 L gs nm (1 + d) q (.own ((l7 nm n2 (1 + d) q gs).take 4))) = some (.lst ((l7 nm n2 (1 + d) q gs).take 4), fr02 xs3 L gs nm (1 + d) q (.val (.lst ((l7 nm n2 (1 + d) q gs).take 4)))) := rfl
    have s2' : (sL VS.gLst (aC (sL VS.gTup (aC (sV 2) (aC (sV 3) (aC (s2 gAdd (sV 4) (sK (.int 1))) (aC (sV 7) aN))))) (aC (sL VS.gTup (aC (sV 2) (aC (sV 3) (aC (sV 4) (aC (sSl (sV 7) (oS (sK (.int 1))) oN) aN))))) aN))) (fr02 xs3 L gs nm (1 + d) q (.val (.lst ((l7 nm n2 (1 + d) q gs).take 4)))) = some (.lst [dueOf nm (1 + d) (q + 1) (namesD gs), dueOf nm (1 + d) q (.lst ((gs.map .str).drop 1))], fr02 xs3 L gs nm (1 + d) q (.val (.lst ((l7 nm n2 (1 + d) q gs).take 4)))) :=
      sL_of (aC_of (sL_of (aC_of rfl (aC_of rfl (aC_of (s2_of rfl rfl gAdd_eq) (aC_of rfl rfl)))) t4) (aC_of (sL_of (aC_of rfl (aC_of rfl (aC_of rfl (aC_of sl1 rfl)))) t4) rfl)) (gL02 (show 2 ≤ LN by decide))
    unfold law_right_hb_12 kOwnAdd
    rw [s1]
    dsimp only
    rw [s2']
    rfl
  · have t4 : ∀ {w x y z : D}, VS.gTup [w, x, y, z] = some (.tup [w, x, y, z]) := gT02 (show 4 ≤ LN by decide)
    have ga : gAdd (.lst (gs.map D.str)) (.lst [.str "unlike"]) = some (.lst (gs.map D.str ++ [.str unl])) := by
      show (if (gs.map D.str).length + 1 ≤ LN then _ else _) = _
      rw [if_pos (by rw [List.length_map]; exact Nat.le_trans (Nat.succ_le_succ gl) (by decide))]
      rfl
    have s1 : (sL VS.gTup (aC (sV 2) (aC (sV 3) (aC (sV 4) (aC (s2 gAdd (sV 7) (sL VS.gLst (aC (sK (.str "unlike")) aN))) aN))))) (fr02 xs3 L gs nm (1 + d) q (.own ((l7 nm n2 (1 + d) q gs).take 6))) = some (dueOf nm (1 + d) q (.lst (gs.map D.str ++ [.str unl])), fr02 xs3 L gs nm (1 + d) q (.own ((l7 nm n2 (1 + d) q gs).take 6))) :=
      sL_of (aC_of rfl (aC_of rfl (aC_of rfl (aC_of (s2_of rfl (sL_of (aC_of rfl rfl) (gL02 (by decide))) ga) rfl)))) t4
    have c1 : conM (fr02 xs3 L gs nm (1 + d) q (.own ((l7 nm n2 (1 + d) q gs).take 6))) 10 = some ((l7 nm n2 (1 + d) q gs).take 6) := rfl
    unfold law_right_hb_13 kApp
    rw [c1]
    dsimp only
    rw [s1]
    dsimp only
    rw [c1]
    rfl
  · exact kSet_to' (callM (ys := xs3) (xs := [.lst (l7 nm n2 (1 + d) q gs)]) (ρ1 := fr02 xs3 L gs nm (1 + d) q (.val (.lst (l7 nm n2 (1 + d) q gs)))) rfl rfl rfl rfl e5 rfl) rfl
  · exact s2_of (x := .tup [.str a, .int b, .int e]) (y := .tup [.str nm, .int (1 + d), .int q]) rfl rfl (gEq3 oa hnm)
  · have k1 := map6 hs (namesD gs) (dueOf a b e (namesD hs))
    have k2 := map6 gs (namesD gs) (dueOf a b e (namesD hs))
    refine sB_of (s2_of (sL_of (aC_of (sComp_of (iSeq_of (s2_of rfl rfl (show gIx (dueOf a b e (namesD hs)) (.int 3) = some (namesD hs) from rfl))) k1 (ll ol)) rfl) (gSort_eq (by omega))) (sL_of (aC_of (sComp_of (iSeq_of rfl) k2 (ll (by omega))) rfl) (gSort_eq (by omega))) ?_)
    exact gNe_strs (sort_ok oh) (sort_ok ok)
  · have gx : ∀ (i : Int) (x : D), gIx (dueOf a b e (namesD hs)) (.int i) = some x → (s2 gIx (sV 11) (sK (.int i))) [.no, .no, .no, .no, .no, .no, .no, .no, .no, .no, .no, .val (dueOf a b e (namesD hs)), .no, .no] = some (x, [.no, .no, .no, .no, .no, .no, .no, .no, .no, .no, .no, .val (dueOf a b e (namesD hs)), .no, .no]) := fun i x h => s2_of rfl rfl h
    exact sMake_02 (aC_of (gx 0 (.str a) rfl) (aC_of (gx 1 (.int b) rfl) (aC_of (gx 2 (.int e) rfl) (aC_of (sL_of (aC_of (gx 3 (namesD hs) rfl) rfl) rfl) rfl)))) rfl i2 rfl
  · have X : (E3 a nm b (1 + d) e q && !(!decide (ssort hs = ssort gs))) = (E3 nm a (1 + d) b q e && decide (ssort gs = ssort hs)) := by
      rw [Bool.not_not, E3_symm a nm]
      congr 1
      exact decide_eq_decide.mpr ⟨Eq.symm, Eq.symm⟩
    rw [X]
    generalize hX : (E3 nm a (1 + d) b q e && decide (ssort gs = ssort hs)) = z at *
    have m : ∀ {s12 : Sl}, sMt2 0 m_Step_eq (sV 8) (sV 13) [.no, .no, .no, .no, .no, .no, .no, .no, .val (stpOf nm (1 + d) q gs), .val (dueOf nm (1 + d) q (namesD gs)), .no, .no, s12, .val (stpOf a b e hs)] = some (.bl z, [.no, .no, .no, .no, .no, .no, .no, .no, .val (stpOf nm (1 + d) q gs), .val (dueOf nm (1 + d) q (namesD gs)), .no, .no, s12, .val (stpOf a b e hs)]) := mt2_02 rfl rfl rfl rfl se
    have n : ∀ {s12 : Sl}, sNeO 0 m_Step_eq (sV 8) (sV 13) [.no, .no, .no, .no, .no, .no, .no, .no, .val (stpOf nm (1 + d) q gs), .val (dueOf nm (1 + d) q (namesD gs)), .no, .no, s12, .val (stpOf a b e hs)] = some (.bl (!z), [.no, .no, .no, .no, .no, .no, .no, .no, .val (stpOf nm (1 + d) q gs), .val (dueOf nm (1 + d) q (namesD gs)), .no, .no, s12, .val (stpOf a b e hs)]) := by
      intro s12
      unfold sNeO
      rw [m]
    have g1 : gNe (.bl z) (.bl z) = some (.bl false) := by rw [gNe_bl]; simp
    have g2 : gEq (.bl (!z)) (.bl z) = some (.bl false) := by rw [gEq_bl]; cases z <;> rfl
    exact bOr_f02 (sB_of (s2_of m rfl g1)) (bOr_f02 (sB_of (s2_of n rfl g2)) (bOr_f02 (sB_of (mtA_02 rfl rfl rfl rfl (step_tup nm (1 + d) q gs _))) (sB_of (mtA_02 rfl rfl rfl rfl (step_non nm (1 + d) q gs)))))
  · exact s2_of (sCall_of (aC_of rfl rfl) rfl (fields_eq nm (1 + d) q gs)) rfl deq
theorem law_right_len {G : Gx} : ∀ us H Q E, spRight G Pu0 us H Q E → us.length = 1 := law_right_len'
theorem law_right_ok {G : Gx} : ∀ us H Q E, spRight G Pu0 us H Q E → law_right_T G (spRef G) { nx := fun _ H1 => Q .non H1, rt := Q } (L2.start N_law_right us) H := law_right_ok' facts02
theorem law_all {G : Gx} : LawOk G (spRight G Pu0) := law_all' facts02
end Toy

set_option Elab.async false
set_option linter.all false
set_option maxRecDepth 100000
set_option maxHeartbeats 8000000
namespace Toy
open PySem PySem.Spec PyProof.Rows L2 VS
def clsA (K0 : Addr) (ea0 : Addr) : Nat → Addr
  | 0 => K0
  | _ => ea0
def fldA : Nat → List Str
  | 0 => ["label", "turn", "lag", "sources"]
  | _ => []
theorem all_mk {l : PySem.W.OpenLaw} {w : World} {K : PySem.W.Frag} {h : Heap} {mg : Str → Option Value} {fa K0 f0 f1 f2 f3 f4 f5 f6 f7 f8 f9 f10 f11 f12 f13 f14 f15 f16 f17 f18 pr8 pr9 pr10 pr11 : Addr} (X : K.In h) (G : h.Ns mainGlobals mg) (hfa : mg "law" = some (.ref fa))
    {od0 an0 od1 an1 od2 an2 od3 an3 od4 an4 od5 an5 od6 an6 od7 an7 od8 an8 od9 an9 od10 an10 od11 an11 od12 an12 od13 an13 od14 an14 od15 an15 od16 an16 od17 an17 od18 an18 : Option Addr} {sl0 sl1 sl2 sl3 sl4 sl5 sl6 sl7 sl8 sl9 sl10 sl11 sl12 sl13 sl14 sl15 sl16 sl17 sl18 : Array (Option Value)} {oc0 kV0 dc0 pm0 cd0 ct0 oc1 kV1 dc1 pm1 cd1 ct1 oc2 kV2 dc2 pm2 cd2 ct2 oc3 kV3 dc3 pm3 cd3 ct3 oc4 kV4 dc4 pm4 cd4 ct4 oc5 kV5 dc5 pm5 cd5 ct5 oc6 kV6 dc6 pm6 cd6 ct6 oc7 kV7 dc7 pm7 cd7 ct7 oc8 kV8 dc8 pm8 cd8 ct8 oc9 kV9 dc9 pm9 cd9 ct9 oc10 kV10 dc10 pm10 cd10 ct10 oc11 kV11 dc11 pm11 cd11 ct11 oc12 kV12 dc12 pm12 cd12 ct12 oc13 kV13 dc13 pm13 cd13 ct13 oc14 kV14 dc14 pm14 cd14 ct14 oc15 kV15 dc15 pm15 cd15 ct15 oc16 kV16 dc16 pm16 cd16 ct16 oc17 kV17 dc17 pm17 cd17 ct17 oc18 kV18 dc18 pm18 cd18 ct18 : Value} {rs8 : List Value} {rs9 : List Value} {rs10 : List Value} {rs11 : List Value}
    {ea0 ef0 eq0 ec0 et0 eN0 : Addr} {eoc0 ekV0 edc0 epm0 ect0 eqc0 ecl0 etc0 : Value} {eod0 ean0 eqd0 ecd0 etd0 edd0 : Option Addr} {esl0 eqm0 ecs0 ets0 : Array (Option Value)} {eqv0 : Array Value} {efl0 enm0 eqn0 : Str} {eft0 : Tok} {etn0 : Nat} {ebs0 ebm0 esb0 : List Value} {esn0 : List Str} {eab0 : Bool} {ecol0 : Option Bool} {ek00 ek10 ek20 ek30 ek50 : Option Value}
    {t_LETTERS : Tok}
    (aC0 : PySem.W.nsIn K mainGlobals "Step" = some (some (.ref K0)))
    (pg0 : PySem.W.plainGet K K0 Str.empty = true)
    (hd0 : PySem.W.hasDictIn K K0 = true)
    (po0 : PySem.W.plainOver K K0 = true)
    (sa0 : PySem.W.findIn K (.ref K0) "__setattr__" = some (some (.builtin "object.__setattr__")))
    (mk0 : PySem.W.makesIn K K0 = true)
    (kc0 : PySem.W.keepIn K (.ref K0) = true)
    (ha0 : PySem.W.findIn K (.ref K0) "__class__" = some (some (.builtin "object.__class__")))
    (mr0 : PySem.W.mroIn K K0 (.type "object") = some true)
    (na0_label : PySem.W.findIn K (.ref K0) "label" = some none)
    (na0_turn : PySem.W.findIn K (.ref K0) "turn" = some none)
    (na0_lag : PySem.W.findIn K (.ref K0) "lag" = some none)
    (na0_sources : PySem.W.findIn K (.ref K0) "sources" = some none)
    (kb0_NoneType : PySem.W.kitOne K (.type "NoneType") (.ref K0) = some false)
    (kb0_bool : PySem.W.kitOne K (.type "bool") (.ref K0) = some false)
    (kb0_int : PySem.W.kitOne K (.type "int") (.ref K0) = some false)
    (kb0_str : PySem.W.kitOne K (.type "str") (.ref K0) = some false)
    (kb0_list : PySem.W.kitOne K (.type "list") (.ref K0) = some false)
    (kb0_tuple : PySem.W.kitOne K (.type "tuple") (.ref K0) = some false)
    (kb0_dict : PySem.W.kitOne K (.type "dict") (.ref K0) = some false)
    (kf0_NoneType : PySem.W.subIn K (.type "NoneType") (.ref K0) = some false)
    (kf0_tuple : PySem.W.subIn K (.type "tuple") (.ref K0) = some false)
    (ne0 : PySem.W.findIn K (.ref K0) "__ne__" = some (some (.builtin "object.__ne__")))
    (nb0 : PySem.W.subIn K (.ref K0) (.type "object") = some true)
    (xa0 : PySem.W.nsIn K mainGlobals "InvalidStep" = some (some (.ref ea0)))
    (xi0 : PySem.W.findIn K (.ref ea0) "__init__" = some (some (.ref ef0)))
    (xl0 : K.lookup ef0 = some ⟨eoc0, eod0, .func (PySem.W.fnX "__init__" "InvalidStep.__init__" (defArgs s_InvalidStep_init) (defBody s_InvalidStep_init) (defScope s_InvalidStep_init) [("__class__", ec0)] (.ref et0) ekV0 edc0 epm0 ean0 (.ref eq0) ect0), esl0⟩)
    (xc0 : PySem.W.codeIn K (.ref eq0) "InvalidStep.__init__" = true)
    (xq0 : K.lookup eq0 = some ⟨eqc0, eqd0, .fields eqv0, eqm0⟩)
    (xv0 : eqv0[2]? = some (.str efl0 eft0))
    (xf0 : ((l.prog.main.file : Str) == efl0) = true)
    (xe0 : K.lookup ec0 = some ⟨ecl0, ecd0, .cell (some (.ref ea0)), ecs0⟩)
    (xt0 : K.lookup et0 = some ⟨etc0, etd0, .seq #[.none] etn0, ets0⟩)
    (xp0 : (l.prog.main.scope.names.lookup ("super" : Str)).isSome = false)
    (xC0 : K.lookup ea0 = some (excClassObj enm0 eqn0 ea0 eN0 ebs0 ebm0 true esn0 esb0 eab0 ecol0 edd0 ek00 ek10 ek20 ek30 ek50 "ValueError.__new__"))
    (xb0 : PySem.HandSPX.refsVE ebm0 = true)
    (xs0 : PySem.W.findIn K (.ref ea0) "__setattr__" = some (some (.builtin "object.__setattr__")))
    (xx0 : PySem.W.subIn K (.ref ea0) (.type "BaseException") = some true)
    (xy0 : PySem.W.typeIn K (.ref ea0) = some (.type "type"))
    (xk0 : PySem.W.keepIn K (.ref ea0) = true)
    (xu0 : PySem.W.ks_superIn K ea0 ea0 "__init__" = some (some (.builtin "ValueError.__init__")))
    (xo0 : PySem.W.nsIn K cStatics "thirdparty.any" = some none)
    (xw0 : PySem.W.findIn K (.ref ea0) "value" = some none)
    (xt_0 : PySem.W.typeIn K (.ref ef0) = some (.type "function"))
    (xm0 : PySem.W.mroIn K ea0 (.ref ea0) = some true)
    (xd0 : PySem.W.subIn K (.ref ea0) (.type "ValueError") = some true)
    (xg0 : PySem.W.findIn K (.ref ea0) "__getattribute__" = some (some (.builtin "BaseException.__getattribute__")))
    (xh0 : PySem.W.findIn K (.ref ea0) "__getattr__" = some none)
    (xn0 : PySem.W.hasDictIn K ea0 = true)
    (hn : PySem.W.specialIn K (.builtin "object.__class__") "__get__" = some (some (.builtin "getset_descriptor.__get__")))
    (tk : PySem.W.takesIn K (.builtin "object.__class__") = some true)
    (a0 : PySem.W.nsIn K mainGlobals "_law_purse" = some (some (.ref f0)))
    (l0 : K.lookup f0 = some ⟨oc0, od0, .func (PySem.W.fnOf "_law_purse" "_law_purse" (defArgs s_law_purse) (defBody s_law_purse) (defScope s_law_purse) .none kV0 dc0 pm0 an0 cd0 ct0), sl0⟩)
    (c0 : PySem.W.codeIn K cd0 "_law_purse" = true)
    (k0 : PySem.W.keepIn K (.ref f0) = true)
    (a1 : PySem.W.nsIn K mainGlobals "_law_draw" = some (some (.ref f1)))
    (l1 : K.lookup f1 = some ⟨oc1, od1, .func (PySem.W.fnOf "_law_draw" "_law_draw" (defArgs s_law_draw) (defBody s_law_draw) (defScope s_law_draw) .none kV1 dc1 pm1 an1 cd1 ct1), sl1⟩)
    (c1 : PySem.W.codeIn K cd1 "_law_draw" = true)
    (k1 : PySem.W.keepIn K (.ref f1) = true)
    (a2 : PySem.W.nsIn K mainGlobals "_law_pick" = some (some (.ref f2)))
    (l2 : K.lookup f2 = some ⟨oc2, od2, .func (PySem.W.fnOf "_law_pick" "_law_pick" (defArgs s_law_pick) (defBody s_law_pick) (defScope s_law_pick) .none kV2 dc2 pm2 an2 cd2 ct2), sl2⟩)
    (c2 : PySem.W.codeIn K cd2 "_law_pick" = true)
    (k2 : PySem.W.keepIn K (.ref f2) = true)
    (a3 : PySem.W.nsIn K mainGlobals "_law_names" = some (some (.ref f3)))
    (l3 : K.lookup f3 = some ⟨oc3, od3, .func (PySem.W.fnOf "_law_names" "_law_names" (defArgs s_law_names) (defBody s_law_names) (defScope s_law_names) .none kV3 dc3 pm3 an3 cd3 ct3), sl3⟩)
    (c3 : PySem.W.codeIn K cd3 "_law_names" = true)
    (k3 : PySem.W.keepIn K (.ref f3) = true)
    (a4 : PySem.W.nsIn K mainGlobals "is_name" = some (some (.ref f4)))
    (l4 : K.lookup f4 = some ⟨oc4, od4, .func (PySem.W.fnOf "is_name" "is_name" (defArgs s_is_name) (defBody s_is_name) (defScope s_is_name) .none kV4 dc4 pm4 an4 cd4 ct4), sl4⟩)
    (c4 : PySem.W.codeIn K cd4 "is_name" = true)
    (k4 : PySem.W.keepIn K (.ref f4) = true)
    (a5 : PySem.W.nsIn K mainGlobals "is_whole" = some (some (.ref f5)))
    (l5 : K.lookup f5 = some ⟨oc5, od5, .func (PySem.W.fnOf "is_whole" "is_whole" (defArgs s_is_whole) (defBody s_is_whole) (defScope s_is_whole) .none kV5 dc5 pm5 an5 cd5 ct5), sl5⟩)
    (c5 : PySem.W.codeIn K cd5 "is_whole" = true)
    (k5 : PySem.W.keepIn K (.ref f5) = true)
    (a6 : PySem.W.nsIn K mainGlobals "are_names" = some (some (.ref f6)))
    (l6 : K.lookup f6 = some ⟨oc6, od6, .func (PySem.W.fnOf "are_names" "are_names" (defArgs s_are_names) (defBody s_are_names) (defScope s_are_names) .none kV6 dc6 pm6 an6 cd6 ct6), sl6⟩)
    (c6 : PySem.W.codeIn K cd6 "are_names" = true)
    (k6 : PySem.W.keepIn K (.ref f6) = true)
    (a7 : PySem.W.findIn K (.ref K0) "__init__" = some (some (.ref f7)))
    (i7 : PySem.W.isFn K (.ref f7) = true)
    (l7 : K.lookup f7 = some ⟨oc7, od7, .func (PySem.W.fnOf "__init__" "Step.__init__" (defArgs s_Step_init) (defBody s_Step_init) (defScope s_Step_init) .none kV7 dc7 pm7 an7 cd7 ct7), sl7⟩)
    (c7 : PySem.W.codeIn K cd7 "Step.__init__" = true)
    (k7 : PySem.W.keepIn K (.ref f7) = true)
    (a8 : PySem.W.findIn K (.ref K0) "name" = some (some (.ref pr8)))
    (pg8_ : PySem.W.specialIn K (.ref pr8) "__get__" = some (some (.builtin "property.__get__")))
    (pt8_ : PySem.W.takesIn K (.ref pr8) = some true)
    (pc8_ : PySem.W.recIn K pr8 "property" = some (.ref f8 :: rs8))
    (l8 : K.lookup f8 = some ⟨oc8, od8, .func (PySem.W.fnOf "name" "Step.name" (defArgs s_Step_name) (defBody s_Step_name) (defScope s_Step_name) .none kV8 dc8 pm8 an8 cd8 ct8), sl8⟩)
    (c8 : PySem.W.codeIn K cd8 "Step.name" = true)
    (k8 : PySem.W.keepIn K (.ref f8) = true)
    (a9 : PySem.W.findIn K (.ref K0) "period" = some (some (.ref pr9)))
    (pg9_ : PySem.W.specialIn K (.ref pr9) "__get__" = some (some (.builtin "property.__get__")))
    (pt9_ : PySem.W.takesIn K (.ref pr9) = some true)
    (pc9_ : PySem.W.recIn K pr9 "property" = some (.ref f9 :: rs9))
    (l9 : K.lookup f9 = some ⟨oc9, od9, .func (PySem.W.fnOf "period" "Step.period" (defArgs s_Step_period) (defBody s_Step_period) (defScope s_Step_period) .none kV9 dc9 pm9 an9 cd9 ct9), sl9⟩)
    (c9 : PySem.W.codeIn K cd9 "Step.period" = true)
    (k9 : PySem.W.keepIn K (.ref f9) = true)
    (a10 : PySem.W.findIn K (.ref K0) "delay" = some (some (.ref pr10)))
    (pg10_ : PySem.W.specialIn K (.ref pr10) "__get__" = some (some (.builtin "property.__get__")))
    (pt10_ : PySem.W.takesIn K (.ref pr10) = some true)
    (pc10_ : PySem.W.recIn K pr10 "property" = some (.ref f10 :: rs10))
    (l10 : K.lookup f10 = some ⟨oc10, od10, .func (PySem.W.fnOf "delay" "Step.delay" (defArgs s_Step_delay) (defBody s_Step_delay) (defScope s_Step_delay) .none kV10 dc10 pm10 an10 cd10 ct10), sl10⟩)
    (c10 : PySem.W.codeIn K cd10 "Step.delay" = true)
    (k10 : PySem.W.keepIn K (.ref f10) = true)
    (a11 : PySem.W.findIn K (.ref K0) "reads" = some (some (.ref pr11)))
    (pg11_ : PySem.W.specialIn K (.ref pr11) "__get__" = some (some (.builtin "property.__get__")))
    (pt11_ : PySem.W.takesIn K (.ref pr11) = some true)
    (pc11_ : PySem.W.recIn K pr11 "property" = some (.ref f11 :: rs11))
    (l11 : K.lookup f11 = some ⟨oc11, od11, .func (PySem.W.fnOf "reads" "Step.reads" (defArgs s_Step_reads) (defBody s_Step_reads) (defScope s_Step_reads) .none kV11 dc11 pm11 an11 cd11 ct11), sl11⟩)
    (c11 : PySem.W.codeIn K cd11 "Step.reads" = true)
    (k11 : PySem.W.keepIn K (.ref f11) = true)
    (a12 : PySem.W.nsIn K mainGlobals "_law_fields" = some (some (.ref f12)))
    (l12 : K.lookup f12 = some ⟨oc12, od12, .func (PySem.W.fnOf "_law_fields" "_law_fields" (defArgs s_law_fields) (defBody s_law_fields) (defScope s_law_fields) .none kV12 dc12 pm12 an12 cd12 ct12), sl12⟩)
    (c12 : PySem.W.codeIn K cd12 "_law_fields" = true)
    (k12 : PySem.W.keepIn K (.ref f12) = true)
    (a13 : PySem.W.findIn K (.ref K0) "__eq__" = some (some (.ref f13)))
    (i13 : PySem.W.isFn K (.ref f13) = true)
    (l13 : K.lookup f13 = some ⟨oc13, od13, .func (PySem.W.fnOf "__eq__" "Step.__eq__" (defArgs s_Step_eq) (defBody s_Step_eq) (defScope s_Step_eq) .none kV13 dc13 pm13 an13 cd13 ct13), sl13⟩)
    (c13 : PySem.W.codeIn K cd13 "Step.__eq__" = true)
    (k13 : PySem.W.keepIn K (.ref f13) = true)
    (a14 : PySem.W.nsIn K mainGlobals "_law_odd" = some (some (.ref f14)))
    (l14 : K.lookup f14 = some ⟨oc14, od14, .func (PySem.W.fnOf "_law_odd" "_law_odd" (defArgs s_law_odd) (defBody s_law_odd) (defScope s_law_odd) .none kV14 dc14 pm14 an14 cd14 ct14), sl14⟩)
    (c14 : PySem.W.codeIn K cd14 "_law_odd" = true)
    (k14 : PySem.W.keepIn K (.ref f14) = true)
    (a15 : PySem.W.findIn K (.ref K0) "__init__" = some (some (.ref f15)))
    (i15 : PySem.W.isFn K (.ref f15) = true)
    (l15 : K.lookup f15 = some ⟨oc15, od15, .func (PySem.W.fnOf "__init__" "Step.__init__" (defArgs s_Step_init) (defBody s_Step_init) (defScope s_Step_init) .none kV15 dc15 pm15 an15 cd15 ct15), sl15⟩)
    (c15 : PySem.W.codeIn K cd15 "Step.__init__" = true)
    (k15 : PySem.W.keepIn K (.ref f15) = true)
    (a16 : PySem.W.nsIn K mainGlobals "_law_refused" = some (some (.ref f16)))
    (l16 : K.lookup f16 = some ⟨oc16, od16, .func (PySem.W.fnOf "_law_refused" "_law_refused" (defArgs s_law_refused) (defBody s_law_refused) (defScope s_law_refused) .none kV16 dc16 pm16 an16 cd16 ct16), sl16⟩)
    (c16 : PySem.W.codeIn K cd16 "_law_refused" = true)
    (k16 : PySem.W.keepIn K (.ref f16) = true)
    (a17 : PySem.W.nsIn K mainGlobals "_law_right" = some (some (.ref f17)))
    (l17 : K.lookup f17 = some ⟨oc17, od17, .func (PySem.W.fnOf "_law_right" "_law_right" (defArgs s_law_right) (defBody s_law_right) (defScope s_law_right) .none kV17 dc17 pm17 an17 cd17 ct17), sl17⟩)
    (c17 : PySem.W.codeIn K cd17 "_law_right" = true)
    (k17 : PySem.W.keepIn K (.ref f17) = true)
    (a18 : PySem.W.nsIn K mainGlobals "law" = some (some (.ref f18)))
    (l18 : K.lookup f18 = some ⟨oc18, od18, .func (PySem.W.fnOf "law" "law" (defArgs s_law) (defBody s_law) (defScope s_law) .none kV18 dc18 pm18 an18 cd18 ct18), sl18⟩)
    (c18 : PySem.W.codeIn K cd18 "law" = true)
    (k18 : PySem.W.keepIn K (.ref f18) = true)
    (z_bool : PySem.W.nsIn K mainGlobals "bool" = some none)
    (z_int : PySem.W.nsIn K mainGlobals "int" = some none)
    (z_isinstance : PySem.W.nsIn K mainGlobals "isinstance" = some none)
    (z_len : PySem.W.nsIn K mainGlobals "len" = some none)
    (z_list : PySem.W.nsIn K mainGlobals "list" = some none)
    (z_max : PySem.W.nsIn K mainGlobals "max" = some none)
    (z_range : PySem.W.nsIn K mainGlobals "range" = some none)
    (z_repr : PySem.W.nsIn K mainGlobals "repr" = some none)
    (z_set : PySem.W.nsIn K mainGlobals "set" = some none)
    (z_sorted : PySem.W.nsIn K mainGlobals "sorted" = some none)
    (z_str : PySem.W.nsIn K mainGlobals "str" = some none)
    (z_super : PySem.W.nsIn K mainGlobals "super" = some none)
    (z_tuple : PySem.W.nsIn K mainGlobals "tuple" = some none)
    (v_LETTERS : PySem.W.nsIn K mainGlobals "LETTERS" = some (some (.str "abcdefghijklmnopqrstuvwxyz" t_LETTERS)))
    (xha0 : PySem.W.findIn K (.ref ea0) "__class__" = some (some (.builtin "object.__class__")))
    (xhm0 : PySem.W.mroIn K ea0 (.type "object") = some true)
    (cs_InvalidStep_0 : PySem.W.subIn K (.ref ea0) (.ref ea0) = some true) :
    EndT l w K 7 "_law_script" mg fa [] := by
  have e := hfa.symm.trans (PySem.W.mg_of X G a18)
  cases e
  refine ⟨[], fun p hp => ?_, fun p hp => ?_, PySem.W.fnOf "law" "law" (defArgs s_law) (defBody s_law) (defScope s_law) .none kV18 dc18 pm18 an18 cd18 ct18, fun s v => .of_eq rfl, fun base kb nb hTB => ⟨⟨K, clsA K0 ea0, fldA, [], w, l.prog, mg, base, 1⟩, rfl, fun p hp => ?_, ?_⟩⟩
  · cases hp
  · cases hp
  · cases hp
  have T : Txt ⟨K, clsA K0 ea0, fldA, [], w, l.prog, mg, base, 1⟩ mg := {
    n_bool := PySem.W.mg_none_of X G z_bool
    n_int := PySem.W.mg_none_of X G z_int
    n_isinstance := PySem.W.mg_none_of X G z_isinstance
    n_len := PySem.W.mg_none_of X G z_len
    n_list := PySem.W.mg_none_of X G z_list
    n_max := PySem.W.mg_none_of X G z_max
    n_range := PySem.W.mg_none_of X G z_range
    n_repr := PySem.W.mg_none_of X G z_repr
    n_set := PySem.W.mg_none_of X G z_set
    n_sorted := PySem.W.mg_none_of X G z_sorted
    n_str := PySem.W.mg_none_of X G z_str
    n_super := PySem.W.mg_none_of X G z_super
    n_tuple := PySem.W.mg_none_of X G z_tuple
    g_LETTERS := ⟨_, PySem.W.mg_of X G v_LETTERS, ⟨_, rfl⟩⟩
    c0 := ⟨⟨pg0, hd0, po0, sa0⟩, ha0, hn, tk, mr0⟩
    g0 := PySem.W.mg_of X G aC0
    nf0 := rfl
    a0_label := na0_label
    l0_label := rfl
    a0_turn := na0_turn
    l0_turn := rfl
    a0_lag := na0_lag
    l0_lag := rfl
    a0_sources := na0_sources
    l0_sources := rfl
    nbi0 := noBi_of kb0_NoneType kb0_bool kb0_int kb0_str kb0_list kb0_tuple kb0_dict
    nfb0 := ⟨kf0_NoneType, kf0_tuple⟩
    ne0 := ⟨ne0, nb0⟩
    xv := (xv_cons (k := 1) ⟨xg0, xh0, xx0, xn0⟩ xw0 xv_nil)
    ct_InvalidStep := ⟨_, PySem.W.mg_of X G xa0, (ct_cons (k := 1) xx0 xn0 xy0 cs_InvalidStep_0 ct_nil)⟩ }
  have F0 := fun_mk (st := s_law_purse) l0 c0 k0
  have b0 := F0.binds (ps := ["_law_script", "_law_at"]) fun _ _ _ _ _ _ us hl => match us, hl with | [_, _], _ => rfl
  have F1 := fun_mk (st := s_law_draw) l1 c1 k1
  have b1 := F1.binds (ps := ["_law_purse_here", "_law_many"]) fun _ _ _ _ _ _ us hl => match us, hl with | [_, _], _ => rfl
  have F2 := fun_mk (st := s_law_pick) l2 c2 k2
  have b2 := F2.binds (ps := ["_law_purse_here", "_law_items"]) fun _ _ _ _ _ _ us hl => match us, hl with | [_, _], _ => rfl
  have F3 := fun_mk (st := s_law_names) l3 c3 k3
  have b3 := F3.binds (ps := ["_law_purse_here", "_law_many"]) fun _ _ _ _ _ _ us hl => match us, hl with | [_, _], _ => rfl
  have F4 := fun_mk (st := s_is_name) l4 c4 k4
  have b4 := F4.binds (ps := ["value"]) fun _ _ _ _ _ _ us hl => match us, hl with | [_], _ => rfl
  have F5 := fun_mk (st := s_is_whole) l5 c5 k5
  have b5 := F5.binds (ps := ["value"]) fun _ _ _ _ _ _ us hl => match us, hl with | [_], _ => rfl
  have F6 := fun_mk (st := s_are_names) l6 c6 k6
  have b6 := F6.binds (ps := ["value"]) fun _ _ _ _ _ _ us hl => match us, hl with | [_], _ => rfl
  have F7 := fun_mk (st := s_Step_init) l7 c7 k7
  have b7 := F7.binds (ps := ["self", "name", "period", "delay", "reads"]) fun _ _ _ _ _ _ us hl => match us, hl with | [_, _, _, _, _], _ => rfl
  have F8 := fun_mk (st := s_Step_name) l8 c8 k8
  have b8 := F8.binds (ps := ["self"]) fun _ _ _ _ _ _ us hl => match us, hl with | [_], _ => rfl
  have F9 := fun_mk (st := s_Step_period) l9 c9 k9
  have b9 := F9.binds (ps := ["self"]) fun _ _ _ _ _ _ us hl => match us, hl with | [_], _ => rfl
  have F10 := fun_mk (st := s_Step_delay) l10 c10 k10
  have b10 := F10.binds (ps := ["self"]) fun _ _ _ _ _ _ us hl => match us, hl with | [_], _ => rfl
  have F11 := fun_mk (st := s_Step_reads) l11 c11 k11
  have b11 := F11.binds (ps := ["self"]) fun _ _ _ _ _ _ us hl => match us, hl with | [_], _ => rfl
  have F12 := fun_mk (st := s_law_fields) l12 c12 k12
  have b12 := F12.binds (ps := ["_law_step"]) fun _ _ _ _ _ _ us hl => match us, hl with | [_], _ => rfl
  have F13 := fun_mk (st := s_Step_eq) l13 c13 k13
  have b13 := F13.binds (ps := ["self", "other"]) fun _ _ _ _ _ _ us hl => match us, hl with | [_, _], _ => rfl
  have F14 := fun_mk (st := s_law_odd) l14 c14 k14
  have b14 := F14.binds (ps := ["_law_name", "_law_period", "_law_delay", "_law_reads"]) fun _ _ _ _ _ _ us hl => match us, hl with | [_, _, _, _], _ => rfl
  have F15 := fun_mk (st := s_Step_init) l15 c15 k15
  have b15 := F15.binds (ps := ["self", "name", "period", "delay", "reads"]) fun _ _ _ _ _ _ us hl => match us, hl with | [_, _, _, _, _], _ => rfl
  have F16 := fun_mk (st := s_law_refused) l16 c16 k16
  have b16 := F16.binds (ps := ["_law_name", "_law_period", "_law_delay", "_law_reads"]) fun _ _ _ _ _ _ us hl => match us, hl with | [_, _, _, _], _ => rfl
  have F17 := fun_mk (st := s_law_right) l17 c17 k17
  have b17 := F17.binds (ps := ["_law_purse_here"]) fun _ _ _ _ _ _ us hl => match us, hl with | [_], _ => rfl
  have F18 := fun_mk (st := s_law) l18 c18 k18
  have b18 := F18.binds (ps := ["_law_script"]) fun _ _ _ _ _ _ us hl => match us, hl with | [_], _ => rfl
  have CE_InvalidStep : CalE l.prog ⟨K, clsA K0 ea0, fldA, [], w, l.prog, mg, base, 1⟩ mg "InvalidStep" 1 := calE_mk (G := ⟨K, clsA K0 ea0, fldA, [], w, l.prog, mg, base, 1⟩) 1 rfl sb_InvalidStep kp_InvalidStep kk_InvalidStep kn_InvalidStep (PySem.W.mg_of X G xa0) (PySem.W.mg_none_of X G z_super) xl0 xc0 xq0 xv0 xf0 xe0 xt0 xp0 xC0 xb0 xs0 xx0 xy0 xk0 xu0 xo0 xw0 xi0 xt_0 xm0 xd0
  have O0 := ok_law_purse (G := ⟨K, clsA K0 ea0, fldA, [], w, l.prog, mg, base, 1⟩) T F0 
  have C__law_purse : CalM l.prog w ⟨K, clsA K0 ea0, fldA, [], w, l.prog, mg, base, 1⟩ mg base "_law_purse" 1 2 m_law_purse := ⟨_, _, _, PySem.W.mg_of X G a0, k0, b0, O0⟩
  have O1 := ok_law_draw (G := ⟨K, clsA K0 ea0, fldA, [], w, l.prog, mg, base, 1⟩) T F1 
  have C__law_draw : Cal l.prog w ⟨K, clsA K0 ea0, fldA, [], w, l.prog, mg, base, 1⟩ mg base "_law_draw" 1 2 m_law_draw := ⟨_, _, _, PySem.W.mg_of X G a1, k1, b1, O1⟩
  have O2 := ok_law_pick (G := ⟨K, clsA K0 ea0, fldA, [], w, l.prog, mg, base, 1⟩) T F2 C__law_draw
  have C__law_pick : Cal l.prog w ⟨K, clsA K0 ea0, fldA, [], w, l.prog, mg, base, 1⟩ mg base "_law_pick" 2 2 m_law_pick := ⟨_, _, _, PySem.W.mg_of X G a2, k2, b2, O2⟩
  have O3 := ok_law_names (G := ⟨K, clsA K0 ea0, fldA, [], w, l.prog, mg, base, 1⟩) T F3 C__law_draw C__law_pick
  have C__law_names : Cal l.prog w ⟨K, clsA K0 ea0, fldA, [], w, l.prog, mg, base, 1⟩ mg base "_law_names" 3 2 m_law_names := ⟨_, _, _, PySem.W.mg_of X G a3, k3, b3, O3⟩
  have O4 := ok_is_name (G := ⟨K, clsA K0 ea0, fldA, [], w, l.prog, mg, base, 1⟩) T F4 
  have C_is_name : Cal l.prog w ⟨K, clsA K0 ea0, fldA, [], w, l.prog, mg, base, 1⟩ mg base "is_name" 1 1 m_is_name := ⟨_, _, _, PySem.W.mg_of X G a4, k4, b4, O4⟩
  have O5 := ok_is_whole (G := ⟨K, clsA K0 ea0, fldA, [], w, l.prog, mg, base, 1⟩) T F5 
  have C_is_whole : Cal l.prog w ⟨K, clsA K0 ea0, fldA, [], w, l.prog, mg, base, 1⟩ mg base "is_whole" 1 1 m_is_whole := ⟨_, _, _, PySem.W.mg_of X G a5, k5, b5, O5⟩
  have O6 := ok_are_names (G := ⟨K, clsA K0 ea0, fldA, [], w, l.prog, mg, base, 1⟩) T F6 C_is_name
  have C_are_names : Cal l.prog w ⟨K, clsA K0 ea0, fldA, [], w, l.prog, mg, base, 1⟩ mg base "are_names" 2 1 m_are_names := ⟨_, _, _, PySem.W.mg_of X G a6, k6, b6, O6⟩
  have O7 := ok_Step_init (G := ⟨K, clsA K0 ea0, fldA, [], w, l.prog, mg, base, 1⟩) T F7 C_is_name C_is_whole C_are_names
  have C_Step : CalC l.prog w ⟨K, clsA K0 ea0, fldA, [], w, l.prog, mg, base, 1⟩ mg base "Step" 3 5 0 m_Step_init := ⟨_, _, _, PySem.W.mg_of X G aC0, ⟨mk0, a7, i7, kc0⟩, b7, O7⟩
  have O8 := ok_Step_name (G := ⟨K, clsA K0 ea0, fldA, [], w, l.prog, mg, base, 1⟩) T F8 
  have C_Step_name : CalP l.prog w ⟨K, clsA K0 ea0, fldA, [], w, l.prog, mg, base, 1⟩ mg base 0 "name" 1 m_Step_name := ⟨_, _, _, _, ⟨a8, pg8_, pt8_, ⟨_, pc8_⟩⟩, b8, O8⟩
  have O9 := ok_Step_period (G := ⟨K, clsA K0 ea0, fldA, [], w, l.prog, mg, base, 1⟩) T F9 
  have C_Step_period : CalP l.prog w ⟨K, clsA K0 ea0, fldA, [], w, l.prog, mg, base, 1⟩ mg base 0 "period" 1 m_Step_period := ⟨_, _, _, _, ⟨a9, pg9_, pt9_, ⟨_, pc9_⟩⟩, b9, O9⟩
  have O10 := ok_Step_delay (G := ⟨K, clsA K0 ea0, fldA, [], w, l.prog, mg, base, 1⟩) T F10 
  have C_Step_delay : CalP l.prog w ⟨K, clsA K0 ea0, fldA, [], w, l.prog, mg, base, 1⟩ mg base 0 "delay" 1 m_Step_delay := ⟨_, _, _, _, ⟨a10, pg10_, pt10_, ⟨_, pc10_⟩⟩, b10, O10⟩
  have O11 := ok_Step_reads (G := ⟨K, clsA K0 ea0, fldA, [], w, l.prog, mg, base, 1⟩) T F11 
  have C_Step_reads : CalP l.prog w ⟨K, clsA K0 ea0, fldA, [], w, l.prog, mg, base, 1⟩ mg base 0 "reads" 1 m_Step_reads := ⟨_, _, _, _, ⟨a11, pg11_, pt11_, ⟨_, pc11_⟩⟩, b11, O11⟩
  have O12 := ok_law_fields (G := ⟨K, clsA K0 ea0, fldA, [], w, l.prog, mg, base, 1⟩) T F12 C_Step_name C_Step_period C_Step_delay C_Step_reads
  have C__law_fields : Cal l.prog w ⟨K, clsA K0 ea0, fldA, [], w, l.prog, mg, base, 1⟩ mg base "_law_fields" 3 1 m_law_fields := ⟨_, _, _, PySem.W.mg_of X G a12, k12, b12, O12⟩
  have O13 := ok_Step_eq (G := ⟨K, clsA K0 ea0, fldA, [], w, l.prog, mg, base, 1⟩) T F13 
  have C_Step_eq : CalO l.prog w ⟨K, clsA K0 ea0, fldA, [], w, l.prog, mg, base, 1⟩ mg base 0 "__eq__" 1 2 m_Step_eq := ⟨_, _, _, a13, i13, k13, b13, O13⟩
  have O14 := ok_law_odd (G := ⟨K, clsA K0 ea0, fldA, [], w, l.prog, mg, base, 1⟩) T F14 
  have C__law_odd : Cal l.prog w ⟨K, clsA K0 ea0, fldA, [], w, l.prog, mg, base, 1⟩ mg base "_law_odd" 1 4 m_law_odd := ⟨_, _, _, PySem.W.mg_of X G a14, k14, b14, O14⟩
  have O15 := okx_Step_init (G := ⟨K, clsA K0 ea0, fldA, [], w, l.prog, mg, base, 1⟩) T F15 C_is_name C_is_whole C_are_names CE_InvalidStep
  have CR_Step_init : CalCR l.prog w ⟨K, clsA K0 ea0, fldA, [], w, l.prog, mg, base, 1⟩ mg base "Step" 3 5 0 mx_Step_init := ⟨_, _, _, PySem.W.mg_of X G aC0, ⟨mk0, a15, i15, kc0⟩, b15, O15⟩
  have O16 := ok_law_refused (G := ⟨K, clsA K0 ea0, fldA, [], w, l.prog, mg, base, 1⟩) T F16 CR_Step_init law_refused_len law_refused_ok
  have CH_law_refused : CalH l.prog w ⟨K, clsA K0 ea0, fldA, [], w, l.prog, mg, base, 1⟩ mg base "_law_refused" 5 _ := ⟨_, _, _, PySem.W.mg_of X G a16, k16, b16, O16⟩
  have O17 := ok_law_right (G := ⟨K, clsA K0 ea0, fldA, [], w, l.prog, mg, base, 1⟩) T F17 C__law_names C__law_draw C__law_pick C_Step C__law_fields C_Step_reads C_Step_eq C__law_odd CH_law_refused law_right_len law_right_ok
  have CH_law_right : CalH l.prog w ⟨K, clsA K0 ea0, fldA, [], w, l.prog, mg, base, 1⟩ mg base "_law_right" 6 _ := ⟨_, _, _, PySem.W.mg_of X G a17, k17, b17, O17⟩
  have O18 := ok_law (G := ⟨K, clsA K0 ea0, fldA, [], w, l.prog, mg, base, 1⟩) T F18 C__law_purse CH_law_right law_all
  exact O18
end Toy
open PySem PySem.W PyProof.Rows
set_option maxRecDepth 100000 in
set_option maxHeartbeats 0 in
theorem PySem.Challenge.cw_agedreads_k02_steps_made_holds : PySem.Challenge.rw_agedreads_k02_steps_made.Holds := by
  w_on; o_law; k_head; (case hw => w_witness2)
  k_fill
  refine VS.walk_ofT (l := PySem.Challenge.rw_agedreads_k02_steps_made) (k := 7) (x := "_law_script") [] rfl rfl ⟨rfl, by decide, by decide⟩ (fun w h Y => by first | exact PySem.W.kIn_of Y | exact PySem.W.km_in_of Y) (by decide +kernel) ?F
  case F =>
    intro w mg fa h KX G hmg
    refine' Toy.all_mk KX G hmg ?aC0 ?pg0 ?hd0 ?po0 ?sa0 ?mk0 ?kc0 ?ha0 ?mr0 ?na0_label ?na0_turn ?na0_lag ?na0_sources ?kb0_NoneType ?kb0_bool ?kb0_int ?kb0_str ?kb0_list ?kb0_tuple ?kb0_dict ?kf0_NoneType ?kf0_tuple ?ne0 ?nb0 ?xa0 ?xi0 ?xl0 ?xc0 ?xq0 ?xv0 ?xf0 ?xe0 ?xt0 ?xp0 ?xC0 ?xb0 ?xs0 ?xx0 ?xy0 ?xk0 ?xu0 ?xo0 ?xw0 ?xt_0 ?xm0 ?xd0 ?xg0 ?xh0 ?xn0 ?hn ?tk ?a0 ?l0 ?c0 ?k0 ?a1 ?l1 ?c1 ?k1 ?a2 ?l2 ?c2 ?k2 ?a3 ?l3 ?c3 ?k3 ?a4 ?l4 ?c4 ?k4 ?a5 ?l5 ?c5 ?k5 ?a6 ?l6 ?c6 ?k6 ?a7 ?i7 ?l7 ?c7 ?k7 ?a8 ?pg8_ ?pt8_ ?pc8_ ?l8 ?c8 ?k8 ?a9 ?pg9_ ?pt9_ ?pc9_ ?l9 ?c9 ?k9 ?a10 ?pg10_ ?pt10_ ?pc10_ ?l10 ?c10 ?k10 ?a11 ?pg11_ ?pt11_ ?pc11_ ?l11 ?c11 ?k11 ?a12 ?l12 ?c12 ?k12 ?a13 ?i13 ?l13 ?c13 ?k13 ?a14 ?l14 ?c14 ?k14 ?a15 ?i15 ?l15 ?c15 ?k15 ?a16 ?l16 ?c16 ?k16 ?a17 ?l17 ?c17 ?k17 ?a18 ?l18 ?c18 ?k18 ?z_bool ?z_int ?z_isinstance ?z_len ?z_list ?z_max ?z_range ?z_repr ?z_set ?z_sorted ?z_str ?z_super ?z_tuple ?v_LETTERS ?xha0 ?xhm0 ?cs_InvalidStep_0
    (case aC0 => k_is); (case pg0 => k_is); (case hd0 => k_is); (case po0 => k_is); (case sa0 => k_is); (case mk0 => k_is)
    (case kc0 => k_is); (case ha0 => k_is); (case mr0 => k_is); (case na0_label => k_is); (case na0_turn => k_is); (case na0_lag => k_is)
    (case na0_sources => k_is); (case kb0_NoneType => kit_is); (case kb0_bool => kit_is); (case kb0_int => kit_is); (case kb0_str => kit_is); (case kb0_list => kit_is)
    (case kb0_tuple => kit_is); (case kb0_dict => kit_is); (case kf0_NoneType => k_is); (case kf0_tuple => k_is); (case ne0 => k_is); (case nb0 => k_is)
    (case xa0 => k_is); (case xi0 => k_is); (case xl0 => k_is); (case xc0 => k_is); (case xq0 => k_is); (case xv0 => first | exact rfl | kernel_rfl)
    (case xf0 => first | exact rfl | decide +kernel | kernel_rfl); (case xe0 => k_is); (case xt0 => k_is); (case xp0 => first | exact rfl | decide +kernel | kernel_rfl); (case xC0 => k_is); (case xb0 => first | exact rfl | decide +kernel | kernel_rfl)
    (case xs0 => k_is); (case xx0 => k_is); (case xy0 => k_is); (case xk0 => k_is); (case xu0 => ks_is); (case xo0 => k_is)
    (case xw0 => k_is); (case xt_0 => k_is); (case xm0 => k_is); (case xd0 => k_is); (case xg0 => k_is); (case xh0 => k_is)
    (case xn0 => k_is); (case hn => k_is); (case tk => k_is); (case a0 => k_is); (case l0 => k_is); (case c0 => k_is)
    (case k0 => k_is); (case a1 => k_is); (case l1 => k_is); (case c1 => k_is); (case k1 => k_is); (case a2 => k_is)
    (case l2 => k_is); (case c2 => k_is); (case k2 => k_is); (case a3 => k_is); (case l3 => k_is); (case c3 => k_is)
    (case k3 => k_is); (case a4 => k_is); (case l4 => k_is); (case c4 => k_is); (case k4 => k_is); (case a5 => k_is)
    (case l5 => k_is); (case c5 => k_is); (case k5 => k_is); (case a6 => k_is); (case l6 => k_is); (case c6 => k_is)
    (case k6 => k_is); (case a7 => k_is); (case i7 => k_is); (case l7 => k_is); (case c7 => k_is); (case k7 => k_is)
    (case a8 => k_is); (case pg8_ => k_is); (case pt8_ => k_is); (case pc8_ => k_is); (case l8 => k_is); (case c8 => k_is)
    (case k8 => k_is); (case a9 => k_is); (case pg9_ => k_is); (case pt9_ => k_is); (case pc9_ => k_is); (case l9 => k_is)
    (case c9 => k_is); (case k9 => k_is); (case a10 => k_is); (case pg10_ => k_is); (case pt10_ => k_is); (case pc10_ => k_is)
    (case l10 => k_is); (case c10 => k_is); (case k10 => k_is); (case a11 => k_is); (case pg11_ => k_is); (case pt11_ => k_is)
    (case pc11_ => k_is); (case l11 => k_is); (case c11 => k_is); (case k11 => k_is); (case a12 => k_is); (case l12 => k_is)
    (case c12 => k_is); (case k12 => k_is); (case a13 => k_is); (case i13 => k_is); (case l13 => k_is); (case c13 => k_is)
    (case k13 => k_is); (case a14 => k_is); (case l14 => k_is); (case c14 => k_is); (case k14 => k_is); (case a15 => k_is)
    (case i15 => k_is); (case l15 => k_is); (case c15 => k_is); (case k15 => k_is); (case a16 => k_is); (case l16 => k_is)
    (case c16 => k_is); (case k16 => k_is); (case a17 => k_is); (case l17 => k_is); (case c17 => k_is); (case k17 => k_is)
    (case a18 => k_is); (case l18 => k_is); (case c18 => k_is); (case k18 => k_is); (case z_bool => k_is); (case z_int => k_is)
    (case z_isinstance => k_is); (case z_len => k_is); (case z_list => k_is); (case z_max => k_is); (case z_range => k_is); (case z_repr => k_is)
    (case z_set => k_is); (case z_sorted => k_is); (case z_str => k_is); (case z_super => k_is); (case z_tuple => k_is); (case v_LETTERS => k_is)
    (case xha0 => k_is); (case xhm0 => k_is); (case cs_InvalidStep_0 => k_is)
#print axioms PySem.Challenge.cw_agedreads_k02_steps_made_holds

