import PyProof.Rows.All
import Wide.All
import OpenK.AllK
import Wide.FinOn
import HandS.ForMost
import HandS.OwnEq
import HandS.Zip
import HandS.Conv
import HandS.Wide
import HandS.Lambda
import HandS.Words
import KE.KDictKeyed
import KE.KDictLaw
import HandS.TupAny
import HandS.IsInst
import HandS.SortInts
import HandS.RaiseMore
import HandS.Text
import HandS.Style
import KE.GoesNew
import HandS.Nested
import KE.KDictWalk
import HandS.DictComp
import KE.GoesZip
import KE.GoesMore
import HandS.Property
import KE.KOpsOwn
import PyProof.InstNe
import HandS.EndTab
import PyProof.Rows.SortStr
import HandS.SetFor
import HandS.Flt
import HandS.IterVal
import HandS.OwnIter
import HandS.Deep
import HandS.NoneIn
import KE.KDictCopyH
import PyProof.Conv_bool
import KE.KExcSuper
import HandS.ExcInit
import HandS.ExcField
import HandS.MakeKwOnly
import KE.KExcIs
import HandS.ExcIs
import HandS.Dict
import PyProof.StrOps2
import KE.RegKIsAll
import HandS.WordsExc
import PySem.Challenge.RW_agedreads_k13_runs_refused
set_option Elab.async false
set_option linter.all false
set_option maxRecDepth 100000
set_option maxHeartbeats 4000000
namespace VS
abbrev St := L2.St
open PySem PySem.Spec PyProof.Rows L2

inductive D where
  | non | bl (b : Bool) | int (i : Int) | str (x : Str) | adr (a : Addr)
  | lst (xs : List D) | tup (xs : List D) | ins (c : Nat) (fs : List D) | scr (xs : List D) | dct (b : Bool) (ks : List NestedKey) (vs : List D) | exc (c : Nat) (d : D) | bth (p : Addr) (d : D)

structure Gx where
  K : PySem.W.Frag
  cls : Nat → Addr
  fld : Nat → List Str
  /-- the tables of the defs that make lambdas, and the lambdas' names -/
  T : List (Addr × Str)
  w : World
  P : Program
  mg : Str → Option Value
  base : Heap
  kl : Nat

mutual
inductive KV1 (F : Hp) : V → NestedKey → Prop
  | non : KV1 F .non .none
  | int (i : Int) : KV1 F (.int i) (.num i)
  | str (x : Str) : KV1 F (.str x) (.text x)
  | tup {a : Addr} {vs : List V} {ks : List NestedKey} : F a = some (.tup vs) → KV1s F vs ks → KV1 F (.ref a) (.tup ks)
inductive KV1s (F : Hp) : List V → List NestedKey → Prop
  | nil : KV1s F [] []
  | cons {v : V} {vs : List V} {k : NestedKey} {ks : List NestedKey} : KV1 F v k → KV1s F vs ks → KV1s F (v :: vs) (k :: ks)
end
mutual
theorem KV1.ext {F F' : Hp} (e : Ext F F') : ∀ {v : V} {k : NestedKey}, KV1 F v k → KV1 F' v k
  | _, _, .non => .non
  | _, _, .int i => .int i
  | _, _, .str x => .str x
  | _, _, .tup h r => .tup (e _ _ h) (KV1s.ext e r)
theorem KV1s.ext {F F' : Hp} (e : Ext F F') : ∀ {vs : List V} {ks : List NestedKey}, KV1s F vs ks → KV1s F' vs ks
  | _, _, .nil => .nil
  | _, _, .cons h r => .cons (KV1.ext e h) (KV1s.ext e r)
end
abbrev DEnt := NestedKey × Addr × Value
def rawO (w : World) (p : Addr) (xs : List DEnt) : HO := .ext fun h => ∃ (o : Obj) (es : Array DictEntry) (ep : Nat), h.get? p = some o ∧ o.ExactDict ∧ o.data = .dict es ep ∧ es.toList = xs.map fun x => ({ hash := x.1.hash w, key := .ref x.2.1, val := x.2.2 } : DictEntry)
def lkO : Option Obj → HO → HO
  | none, u => u
  | some od, u => .frz od u
structure DicN (w : World) (l : Option Obj) (F H : Hp) (p : Addr) (xs : List DEnt) (ks : List NestedKey) (vs : List V) : Prop where
  at_ : H p = some (lkO l (rawO w p xs))
  sys : (p == sysModules) = false
  kse : ks = xs.map (·.1)
  nd : ks.Nodup
  vse : Vals vs (xs.map (·.2.2))
  ky : ∀ x ∈ xs, KV1 F (.ref x.2.1) x.1 ∧ x.1.depth ≤ 8
  ln : xs.length ≤ 1000000
def nkOf : Key → NestedKey
  | .inl i => .num i
  | .inr x => .text x
def DicAt (w : World) (b : Bool) (l : Option Obj) (F H : Hp) (p : Addr) (ks : List NestedKey) (vs : List V) : Prop := match b with
  | true => ∃ xs, DicN w l F H p xs ks vs
  | false => ∃ kvs : List (Key × V), H p = some (lkO l (.dK kvs)) ∧ ks = kvs.map (fun x => nkOf x.1) ∧ vs = kvs.map (·.2) ∧ kvs.length ≤ 1000000
theorem DicN.ext {w : World} {l : Option Obj} {F F' H H' : Hp} {p : Addr} {xs : List DEnt} {ks : List NestedKey} {vs : List V} (e : Ext F F') (h : H p = some (lkO l (rawO w p xs)) → H' p = some (lkO l (rawO w p xs))) (d : DicN w l F H p xs ks vs) : DicN w l F' H' p xs ks vs :=
  ⟨h d.at_, d.sys, d.kse, d.nd, d.vse, fun x hx => ⟨(d.ky x hx).1.ext e, (d.ky x hx).2⟩, d.ln⟩
theorem DicAt.ext {w : World} {b : Bool} {l : Option Obj} {F F' H H' : Hp} {p : Addr} {ks : List NestedKey} {vs : List V} (e : Ext F F') (h : ∀ o, H p = some o → H' p = some o) (d : DicAt w b l F H p ks vs) : DicAt w b l F' H' p ks vs := by
  cases b with
  | true => obtain ⟨xs, d⟩ := d; exact ⟨xs, d.ext e (h _)⟩
  | false => obtain ⟨kvs, d, r⟩ := d; exact ⟨kvs, h _ d, r⟩
theorem lk_nt {l : Option Obj} {u : HO} (n : ∀ ps, u ≠ .tbl ps) : ∀ ps, lkO l u ≠ .tbl ps := fun ps z => by
  cases l with
  | none => exact n ps z
  | some od => cases z
theorem raw_nt {w : World} {p : Addr} {xs : List DEnt} : ∀ ps, rawO w p xs ≠ .tbl ps := fun ps z => by unfold rawO at z; cases z
theorem dK_nt {kvs : List (Key × V)} : ∀ ps, HO.dK kvs ≠ .tbl ps := fun ps z => by cases z
theorem DicAt.obT {w : World} {b : Bool} {l : Option Obj} {F H : Hp} {p : Addr} {ks : List NestedKey} {vs : List V} (d : DicAt w b l F H p ks vs) : ∃ o, H p = some o ∧ ∀ ps, o ≠ .tbl ps := by
  cases b with
  | true => obtain ⟨xs, d⟩ := d; exact ⟨_, d.at_, lk_nt raw_nt⟩
  | false => obtain ⟨kvs, d, r⟩ := d; exact ⟨_, d, lk_nt dK_nt⟩
theorem DicAt.ob {w : World} {b : Bool} {l : Option Obj} {F H : Hp} {p : Addr} {ks : List NestedKey} {vs : List V} (d : DicAt w b l F H p ks vs) : ∃ o, H p = some o := by
  cases b with
  | true => obtain ⟨xs, d⟩ := d; exact ⟨_, d.at_⟩
  | false => obtain ⟨kvs, d, r⟩ := d; exact ⟨_, d⟩

def exq (a C dx : Addr) : HO := .ext fun h => ∃ ox : Obj, h.get? a = some ox ∧ ox.cls = .ref C ∧ ox.dict = some dx ∧ ∃ fv, ox.data = .fields fv
mutual
inductive Rep (G : Gx) (F : Hp) : V → D → Prop
  | non : Rep G F .non .non
  | bl (b : Bool) : Rep G F (.bl b) (.bl b)
  | int (i : Int) : Rep G F (.int i) (.int i)
  | str (x : Str) : Rep G F (.str x) (.str x)
  | adr (a : Addr) : Rep G F (.ref a) (.adr a)
  | lst {a : Addr} {vs : List V} {ds : List D} : F a = some (.lst vs) → Reps G F vs ds → Rep G F (.ref a) (.lst ds)
  | scr {a : Addr} {vs : List V} {ds : List D} : SqL G.K F a vs → Reps G F vs ds → Rep G F (.ref a) (.scr ds)
  | tup {a : Addr} {vs : List V} {ds : List D} : F a = some (.tup vs) → Reps G F vs ds → Rep G F (.ref a) (.tup ds)
  | ins {a dx : Addr} {c : Nat} {fs : List (Str × V)} {ds : List D} : F a = some (.ins (G.cls c) dx fs) → fs.map (·.1) = G.fld c → Reps G F (fs.map (·.2)) ds → Rep G F (.ref a) (.ins c ds)
  | dct {a : Addr} {b : Bool} {od : Obj} {ks : List NestedKey} {vs : List V} {ds : List D} : DicAt G.w b (some od) F F a ks vs → Reps G F vs ds → Rep G F (.ref a) (.dct b ks ds)
  | exc {a dx : Addr} {c : Nat} {v : V} {d : D} : F a = some (exq a (G.cls c) dx) → F dx = some (.xd [("value", v)]) → Rep G F v d → Rep G F (.ref a) (.exc c d)
  | bth {a : Addr} {d : D} : Rep G F (.ref a) d → Rep G F (.ref a) (.bth a d)
inductive Reps (G : Gx) (F : Hp) : List V → List D → Prop
  | nil : Reps G F [] []
  | cons {v : V} {vs : List V} {d : D} {ds : List D} : Rep G F v d → Reps G F vs ds → Reps G F (v :: vs) (d :: ds)
end
mutual
theorem Rep.ext {G : Gx} {F F' : Hp} (e : Ext F F') : ∀ {v : V} {d : D}, Rep G F v d → Rep G F' v d
  | _, _, .non => .non
  | _, _, .bl b => .bl b
  | _, _, .int i => .int i
  | _, _, .str x => .str x
  | _, _, .adr a => .adr a
  | _, _, .lst h r => .lst (e _ _ h) (Reps.ext e r)
  | _, _, .scr h r => .scr (h.ext e) (Reps.ext e r)
  | _, _, .tup h r => .tup (e _ _ h) (Reps.ext e r)
  | _, _, .ins h n r => .ins (e _ _ h) n (Reps.ext e r)
  | _, _, .dct h r => .dct (h.ext e (e _)) (Reps.ext e r)
  | _, _, .exc h h2 r => .exc (e _ _ h) (e _ _ h2) (Rep.ext e r)
  | _, _, .bth r => .bth (Rep.ext e r)
theorem Reps.ext {G : Gx} {F F' : Hp} (e : Ext F F') : ∀ {vs : List V} {ds : List D}, Reps G F vs ds → Reps G F' vs ds
  | _, _, .nil => .nil
  | _, _, .cons h r => .cons (Rep.ext e h) (Reps.ext e r)
end
section
variable {G : Gx} {F : Hp}
theorem Reps.length : ∀ {vs : List V} {ds : List D}, Reps G F vs ds → vs.length = ds.length
  | _, _, .nil => rfl
  | _, _, .cons _ r => by simp [Reps.length r]
theorem Reps.get : ∀ {vs : List V} {ds : List D} {i : Nat} {d : D}, Reps G F vs ds → ds[i]? = some d → ∃ v, vs[i]? = some v ∧ Rep G F v d
  | _, _, _, _, .nil, h => by simp at h
  | _, _, 0, _, .cons h _, e => by simp at e; subst e; exact ⟨_, rfl, h⟩
  | _, _, i + 1, d, .cons _ r, e => by
    obtain ⟨v, h1, h2⟩ := Reps.get (i := i) (d := d) r (by simpa using e)
    exact ⟨v, by simpa using h1, h2⟩
theorem Reps.append : ∀ {vs ws : List V} {ds es : List D}, Reps G F vs ds → Reps G F ws es → Reps G F (vs ++ ws) (ds ++ es)
  | _, _, _, _, .nil, s => s
  | _, _, _, _, .cons h r, s => .cons h (Reps.append r s)
theorem Reps.set {v : V} {d : D} (h : Rep G F v d) : ∀ {vs : List V} {ds : List D} (i : Nat), Reps G F vs ds → Reps G F (vs.set i v) (ds.set i d)
  | _, _, _, .nil => .nil
  | _, _, 0, .cons _ r => .cons h r
  | _, _, i + 1, .cons q r => .cons q (Reps.set h i r)
theorem Reps.take : ∀ {vs : List V} {ds : List D} (n : Nat), Reps G F vs ds → Reps G F (vs.take n) (ds.take n)
  | _, _, 0, _ => by simpa using Reps.nil
  | _, _, _ + 1, .nil => .nil
  | _, _, n + 1, .cons h r => .cons h (Reps.take n r)
theorem Reps.drop : ∀ {vs : List V} {ds : List D} (n : Nat), Reps G F vs ds → Reps G F (vs.drop n) (ds.drop n)
  | _, _, 0, r => r
  | _, _, _ + 1, .nil => .nil
  | _, _, n + 1, .cons _ r => Reps.drop n r
theorem Reps.one {v : V} {d : D} (h : Rep G F v d) : Reps G F [v] [d] := .cons h .nil
end

structure TbOk (T : List (Addr × Str)) (F H : Hp) : Prop where
  t : LamX.Tabs T H
  n : ∀ p ∈ T, F p.1 = none
theorem TbOk.ext {T : List (Addr × Str)} {F H F' H' : Hp} (b : TbOk T F H) (h : ∀ p o, H p = some o → H' p = some o) (n : ∀ p o, H p = some o → F p = none → F' p = none) : TbOk T F' H' :=
  ⟨b.t.ext h, fun p hp => let ⟨_, e, _⟩ := b.t p hp; n _ _ e (b.n p hp)⟩
theorem TbOk.seal {T : List (Addr × Str)} {F H : Hp} {p : Addr} {o : HO} (b : TbOk T F H) (hh : H p = some o) (nt : ∀ ps, o ≠ .tbl ps) : TbOk T (upd F p o) H :=
  ⟨b.t, fun q hq => by
    obtain ⟨ps, e, _⟩ := b.t q hq
    have z : q.1 ≠ p := fun z => by rw [z, hh] at e; cases e; exact nt ps rfl
    rw [upd_ne z]
    exact b.n q hq⟩

theorem tabs_mod {T : List (Addr × Str)} {H H' : Hp} (t : LamX.Tabs T H) (e : ∀ b u, H b = some u → ((∃ ps, u = .tbl ps) ∨ ∃ c q, u = LamX.CodeO c q) → H' b = some u) : LamX.Tabs T H' := fun p hp => by
  obtain ⟨ps, h1, h2, h3⟩ := t p hp
  refine ⟨ps, e _ _ h1 (.inl ⟨ps, rfl⟩), h2, fun pos cv hc => ?_⟩
  obtain ⟨c, e1, e2⟩ := h3 pos cv hc
  exact ⟨c, e1, e _ _ e2 (.inr ⟨_, _, rfl⟩)⟩
theorem tabs_upd {T : List (Addr × Str)} {H : Hp} {p : Addr} {o u : HO} (t : LamX.Tabs T H) (hp : H p = some o) (n1 : ∀ ps, o ≠ .tbl ps) (n2 : ∀ c q, o ≠ LamX.CodeO c q) : LamX.Tabs T (upd H p u) := tabs_mod t fun b v e k => by
  by_cases z : b = p
  · subst z
    rw [hp] at e
    cases e
    rcases k with ⟨ps, k⟩ | ⟨c, q, k⟩
    · exact absurd k (n1 ps)
    · exact absurd k (n2 c q)
  · rw [upd_ne z]; exact e
theorem nc_lst {xs : List V} : ∀ c q, HO.lst xs ≠ LamX.CodeO c q := fun c q z => by unfold LamX.CodeO at z; cases z
theorem nc_ins {a b : Addr} {fs : List (Str × V)} : ∀ c q, HO.ins a b fs ≠ LamX.CodeO c q := fun c q z => by unfold LamX.CodeO at z; cases z
structure Keep (T : List (Addr × Str)) (B : List Addr) (F H F' H' : Hp) : Prop where
  f : Ext F F'
  fh : Ext F' H'
  h : ∀ p o, H p = some o → p ∉ B → (∀ ps, o ≠ .tbl ps) → H' p = some o
  a : ∀ p o, H p = some o → ∃ o', H' p = some o'
  n : ∀ p o, H p = some o → F p = none → F' p = none
  t : TbOk T F H → TbOk T F' H'
def LamL (o : HO) : Prop := (∃ ob, o = .frz ob (.own 0)) ∨ ∃ c q, o = LamX.CodeO c q
theorem LamL.nt {o : HO} (l : LamL o) : ∀ ps, o ≠ .tbl ps := fun ps z => by
  subst z
  rcases l with ⟨ob, l⟩ | ⟨c, q, l⟩
  · cases l
  · unfold LamX.CodeO at l; cases l
theorem nl_lst {xs : List V} : ¬ LamL (.lst xs) := fun l => by
  rcases l with ⟨ob, l⟩ | ⟨c, q, l⟩
  · cases l
  · unfold LamX.CodeO at l; cases l
theorem nl_ins {a b : Addr} {fs : List (Str × V)} : ¬ LamL (.ins a b fs) := fun l => by
  rcases l with ⟨ob, l⟩ | ⟨c, q, l⟩
  · cases l
  · unfold LamX.CodeO at l; cases l
theorem nl_dK {kvs : List (Key × V)} : ¬ LamL (.dK kvs) := fun l => by
  rcases l with ⟨ob, l⟩ | ⟨c, q, l⟩
  · cases l
  · unfold LamX.CodeO at l; cases l
theorem nc_raw {w : World} {p : Addr} {xs : List DEnt} (c : Addr) (q : Str) : rawO w p xs ≠ LamX.CodeO c q := fun z => by
  unfold rawO LamX.CodeO at z
  have e := HO.ext.inj z
  let es : Array DictEntry := (xs.map fun x => ({ hash := x.1.hash w, key := .ref x.2.1, val := x.2.2 } : DictEntry)).toArray
  let o : Obj := { cls := .type "dict", data := .dict es }
  let h : Heap := { objs := Array.replicate (p + 1) o }
  have at_ : ∀ a, h.get? a = if a < p + 1 then some o else none := fun a => by
    have g : h.objs[a]? = if a < p + 1 then some o else none := Array.getElem?_replicate
    unfold Heap.get?
    rw [g]
    by_cases z : a < p + 1
    · rw [if_pos z]
    · rw [if_neg z]
  have get : ∀ a ob, h.get? a = some ob → ob = o := fun a ob g => by
    rw [at_] at g
    split at g
    · exact (Option.some.inj g).symm
    · cases g
  have φ : (fun h : Heap => ∃ (o : Obj) (es : Array DictEntry) (ep : Nat), h.get? p = some o ∧ o.ExactDict ∧ o.data = .dict es ep ∧ es.toList = xs.map fun x => ({ hash := x.1.hash w, key := .ref x.2.1, val := x.2.2 } : DictEntry)) h := by
    refine ⟨o, es, _, ?_, ?_, rfl, ?_⟩
    · rw [at_, if_pos (Nat.lt_succ_self p)]
    · exact ⟨rfl, rfl, rfl⟩
    · simp [es]
  rw [e] at φ
  obtain ⟨oc, vs, t, h1, h2, h3⟩ := φ
  rw [get _ _ h1] at h2
  cases h2
theorem nl_raw {w : World} {p : Addr} {xs : List DEnt} : ¬ LamL (rawO w p xs) := fun l => by
  rcases l with ⟨ob, l⟩ | ⟨c, q, l⟩
  · unfold rawO at l; cases l
  · exact nc_raw c q l
theorem nl_lk {l : Option Obj} {u : HO} (n : ¬ LamL u) (no : u ≠ .own 0) : ¬ LamL (lkO l u) := fun z => by
  cases l with
  | none => exact n z
  | some od =>
    rcases z with ⟨ob, z⟩ | ⟨c, q, z⟩
    · cases z; exact no rfl
    · unfold lkO LamX.CodeO at z; cases z
theorem raw_no {w : World} {p : Addr} {xs : List DEnt} : rawO w p xs ≠ .own 0 := fun z => by unfold rawO at z; cases z
theorem dK_no {kvs : List (Key × V)} : HO.dK kvs ≠ .own 0 := fun z => by cases z
theorem DicAt.nl {w : World} {b : Bool} {l : Option Obj} {F H : Hp} {p : Addr} {ks : List NestedKey} {vs : List V} {o : HO} (d : DicAt w b l F H p ks vs) (h : H p = Option.some o) : ¬ LamL o := by
  cases b with
  | true => obtain ⟨xs, d⟩ := d; have e := d.at_; rw [h] at e; cases e; exact nl_lk nl_raw raw_no
  | false => obtain ⟨kvs, d, r⟩ := d; rw [h] at d; cases d; exact nl_lk nl_dK dK_no
def LamC (G : Gx) (L : List (Addr × HO)) (F : Hp) (f : Addr) (h : D → D → Option D) : Prop := ∀ (A : Around) (outer : List Env) (s : Shared) (H F' : Hp) (ua ub : Value) (va vb : V) (a b d : D),
  Env0 G.P G.w G.K G.mg G.base A outer s H → Room G.kl A → (∀ x ∈ L, H x.1 = some x.2 ∧ ((∃ ob, x.2 = .frz ob (.own 0)) → F' x.1 = none)) → Ext F F' → Ext F' H → TbOk G.T F' H → Rep G F' va a → Rep G F' vb b → RelV va ua → RelV vb ub → h a b = some d →
  codeAny (model G.P G.w) A (.call (.ref f) ⟨[ua, ub], []⟩) (CR CX0 outer G.P G.w H s (fun v H' => ∃ F'', Keep G.T [] F' H F'' H' ∧ Rep G F'' v d) E0) s
def LamAt (G : Gx) (F H : Hp) (f : Addr) (h : D → D → Option D) : Prop := ∃ L : List (Addr × HO), (∀ x ∈ L, H x.1 = some x.2 ∧ ((∃ ob, x.2 = .frz ob (.own 0)) → F x.1 = none) ∧ LamL x.2) ∧ (∃ (oc : Value) (od : Option Addr) (fd : FuncData) (sl : Array (Option Value)), (f, HO.frz ⟨oc, od, .func fd, sl⟩ (.own 0)) ∈ L) ∧ LamC G L F f h
theorem LamAt.move {G : Gx} {F F' H H' : Hp} {f : Addr} {h : D → D → Option D} (l : LamAt G F H f h) (e : Ext F F') (hk : ∀ p o, H p = some o → LamL o → H' p = some o ∧ (F p = none → F' p = none)) : LamAt G F' H' f h := by
  obtain ⟨L, h1, hf, h2⟩ := l
  refine ⟨L, fun x hx => ?_, hf, fun A o s H F2 ua ub va vb a b d k1 k2 k3 k4 => h2 A o s H F2 ua ub va vb a b d k1 k2 k3 (e.trans k4)⟩
  obtain ⟨a1, a2, a3⟩ := h1 x hx
  obtain ⟨b1, b2⟩ := hk _ _ a1 a3
  exact ⟨b1, fun z => b2 (a2 z), a3⟩
inductive Sl where
  | no | val (d : D) | own (xs : List D) | bor (xs : List D) | slf (c : Nat) (fs : List D) | dic (b : Bool) (ks : List NestedKey) (vs : List D) | lam (h : D → D → Option D)
abbrev Rho := List Sl
def Sl.mut : Sl → Bool
  | .own _ => true
  | .bor _ => true
  | .slf _ _ => true
  | .dic _ _ _ => true
  | _ => false

structure Ctx where
  G : Gx
  F0 : Hp
  H0 : Hp
  B : List Addr

def SlOk (c : Ctx) (F H : Hp) : Option V → Sl → Prop
  | _, .no => True
  | some v, .val d => Rep c.G F v d
  | some v, .own xs => ∃ p, v = V.ref p ∧ c.H0 p = none ∧ F p = none ∧ ∃ vs, H p = some (.lst vs) ∧ Reps c.G F vs xs
  | some v, .bor xs => ∃ p, v = V.ref p ∧ p ∈ c.B ∧ F p = none ∧ ∃ vs, H p = some (.lst vs) ∧ Reps c.G F vs xs
  | some v, .slf k ds => ∃ p, v = V.ref p ∧ p ∈ c.B ∧ F p = none ∧ ∃ dx fs, H p = some (.ins (c.G.cls k) dx fs) ∧ (∃ n, fs.map (·.1) = (c.G.fld k).take n) ∧ Reps c.G F (fs.map (·.2)) ds
  | some v, .dic b ks ds => ∃ p, v = V.ref p ∧ c.H0 p = none ∧ F p = none ∧ ∃ vs, DicAt c.G.w b none F H p ks vs ∧ Reps c.G F vs ds
  | some v, .lam h => ∃ f, v = V.ref f ∧ LamAt c.G F H f h
  | none, _ => False

structure Ok (c : Ctx) (F H : Hp) (σ : VS.St) (ρ : Rho) : Prop where
  len : σ.length = ρ.length
  f0 : Ext c.F0 F
  fh : Ext F H
  fr : ∀ p o, c.H0 p = some o → p ∉ c.B → (∀ ps, o ≠ .tbl ps) → H p = some o
  al : ∀ p o, c.H0 p = some o → ∃ o', H p = some o'
  n0 : ∀ p o, c.H0 p = some o → c.F0 p = none → F p = none
  sl : ∀ (i : Nat) s, ρ[i]? = some s → ∃ ov, σ[i]? = some ov ∧ SlOk c F H ov s
  ap : ∀ (i j : Nat) s t p q, ρ[i]? = some s → ρ[j]? = some t → s.mut = true → t.mut = true → σ[i]? = some (some (V.ref p)) → σ[j]? = some (some (V.ref q)) → p = q → i = j
  hb : ∀ p ∈ c.B, ∃ o, c.H0 p = some o
  tb : TbOk c.G.T F H

structure Grow (F H F' H' : Hp) : Prop where
  f : Ext F F'
  fh : Ext F' H'
  h : Ext H H'
  n : ∀ p o, H p = some o → F p = none → F' p = none
theorem Grow.refl {F H : Hp} (e : Ext F H) : Grow F H F H := ⟨Ext.rfl', e, Ext.rfl', fun _ _ _ h => h⟩
theorem Grow.trans {F H F1 H1 F2 H2 : Hp} (a : Grow F H F1 H1) (b : Grow F1 H1 F2 H2) : Grow F H F2 H2 :=
  ⟨a.f.trans b.f, b.fh, a.h.trans b.h, fun p o h n => b.n p o (a.h _ _ h) (a.n p o h n)⟩
theorem ext_none {F H : Hp} (e : Ext F H) {p : Addr} (h : H p = none) : F p = none := by
  cases q : F p with
  | none => rfl
  | some o => rw [e p o q] at h; cases h
theorem Grow.new {F H : Hp} (e : Ext F H) {p : Addr} {o : HO} (h : H p = none) : Grow F H (upd F p o) (upd H p o) where
  f := Ext.upd (ext_none e h)
  fh := fun a u q => by
    by_cases z : a = p
    · subst z; rw [upd_same] at q ⊢; exact q
    · rw [upd_ne z] at q ⊢; exact e _ _ q
  h := Ext.upd h
  n := fun a u q n => by
    have z : a ≠ p := fun z => by subst z; rw [h] at q; cases q
    rw [upd_ne z]; exact n
theorem Grow.raw {F H : Hp} (e : Ext F H) {p : Addr} {o : HO} (h : H p = none) : Grow F H F (upd H p o) :=
  ⟨Ext.rfl', e.trans (Ext.upd h), Ext.upd h, fun _ _ _ n => n⟩

section
variable {c : Ctx} {F H F' H' : Hp} {σ : VS.St} {ρ : Rho}
theorem SlOk.grow (g : Grow F H F' H') : ∀ {ov : Option V} {s : Sl}, SlOk c F H ov s → SlOk c F' H' ov s
  | _, .no, _ => by simp [SlOk]
  | some _, .val _, h => Rep.ext g.f h
  | some _, .own _, ⟨p, e, h0, hf, vs, hh, r⟩ => ⟨p, e, h0, g.n _ _ hh hf, vs, g.h _ _ hh, r.ext g.f⟩
  | some _, .bor _, ⟨p, e, h0, hf, vs, hh, r⟩ => ⟨p, e, h0, g.n _ _ hh hf, vs, g.h _ _ hh, r.ext g.f⟩
  | some _, .slf _ _, ⟨p, e, h0, hf, dx, fs, hh, n, r⟩ => ⟨p, e, h0, g.n _ _ hh hf, dx, fs, g.h _ _ hh, n, r.ext g.f⟩
  | none, .val _, h => h
  | none, .own _, h => h
  | none, .bor _, h => h
  | some _, .dic _ _ _, ⟨p, e, h0, hf, vs, hh, r⟩ => ⟨p, e, h0, let ⟨_, q⟩ := hh.ob; g.n _ _ q hf, vs, hh.ext g.f (g.h p), r.ext g.f⟩
  | some _, .lam _, ⟨f1, e, l⟩ => ⟨f1, e, l.move g.f fun q0 u0 e1 _ => ⟨g.h _ _ e1, fun e3 => g.n _ _ e1 e3⟩⟩
  | none, .slf _ _, h => h
  | none, .dic _ _ _, h => h
  | none, .lam _, h => h
theorem Ok.grow (I : Ok c F H σ ρ) (g : Grow F H F' H') : Ok c F' H' σ ρ where
  len := I.len
  f0 := I.f0.trans g.f
  fh := g.fh
  fr := fun p o h1 h2 h3 => g.h _ _ (I.fr p o h1 h2 h3)
  al := fun p o h1 => let ⟨o', e⟩ := I.al p o h1; ⟨o', g.h _ _ e⟩
  n0 := fun p o h1 h2 => let ⟨o', e⟩ := I.al p o h1; g.n p o' e (I.n0 p o h1 h2)
  sl := fun i s e => let ⟨ov, h1, h2⟩ := I.sl i s e; ⟨ov, h1, h2.grow g⟩
  ap := I.ap
  hb := I.hb
  tb := I.tb.ext g.h g.n
end

abbrev SE := Rho → Option (D × Rho)
abbrev SB := Rho → Option (Bool × Rho)
def vt (c : Ctx) (s : SE) : TE := fun σ H Q => ∃ F ρ, Ok c F H σ ρ ∧ ∃ d ρ', s ρ = some (d, ρ') ∧ ∀ v H' F', Ext F F' → Ok c F' H' σ ρ' → Rep c.G F' v d → Q v H'
def vb (c : Ctx) (s : SB) : TT := fun σ H Q => ∃ F ρ, Ok c F H σ ρ ∧ ∃ b ρ', s ρ = some (b, ρ') ∧ ∀ H' F', Ext F F' → Ok c F' H' σ ρ' → Q b H'
theorem pe_of {X : Cx} {e : Expr} {t t' : TE} (h : PE X e t) (w : ∀ σ H Q, t' σ H Q → t σ H Q) : PE X e t' :=
  ⟨fun pins s σ H Q I q => h.run pins s σ H Q I (w σ H Q q)⟩
theorem pt_of {X : Cx} {e : Expr} {t t' : TT} (h : PT X e t) (w : ∀ σ H Q, t' σ H Q → t σ H Q) : PT X e t' :=
  ⟨fun pins s σ H Q I q => h.run pins s σ H Q I (w σ H Q q)⟩
theorem ps_of {X : Cx} {e : Stmt} {t t' : TS} (h : PS X e t) (w : ∀ σ H Q, t' Q σ H → t Q σ H) : PS X e t' :=
  ⟨fun pins s σ H Q I q => h.run pins s σ H Q I (w σ H Q q)⟩
theorem pss_of {X : Cx} {e : List Stmt} {t t' : TS} (h : PSs X e t) (w : ∀ σ H Q, t' Q σ H → t Q σ H) : PSs X e t' :=
  ⟨fun pins s σ H Q I q => h.run pins s σ H Q I (w σ H Q q)⟩
theorem pa_of {X : Cx} {e : List Expr} {t t' : TA} (h : PA X e t) (w : ∀ σ H Q, t' σ H Q → t σ H Q) : PA X e t' :=
  ⟨fun pos pins s σ H Q I q => h.run pos pins s σ H Q I (w σ H Q q)⟩

def sV (i : Nat) : SE := fun ρ => match ρ[i]? with
  | some (.val d) => some (d, ρ)
  | some (.own xs) => some (.lst xs, ρ.set i (.val (.lst xs)))
  | some (.dic b ks ds) => some (.dct b ks ds, ρ.set i (.val (.dct b ks ds)))
  | _ => none
def sK (d : D) : SE := fun ρ => some (d, ρ)
section
variable {c : Ctx} {X : Cx}
theorem Ok.freezeX {F H : Hp} {σ : VS.St} {ρ : Rho} (I : Ok c F H σ ρ) {i : Nat} {s0 : Sl} {p : Addr} {o o' : HO} {d : D} (h : ρ[i]? = some s0) (hm0 : s0.mut = true) (h1 : σ[i]? = some (some (V.ref p))) (h0 : c.H0 p = none) (hh : H p = some o) (nt : ∀ ps, o ≠ .tbl ps) (nc : ∀ c q, o ≠ LamX.CodeO c q) (nl : ¬ LamL o) (hf : F p = none) (nt' : ∀ ps, o' ≠ .tbl ps) (nc' : ∀ c q, o' ≠ LamX.CodeO c q) (nl' : ¬ LamL o') (rd : Rep c.G (upd F p o') (V.ref p) d) :
  Ok c (upd F p o') (upd H p o') σ (ρ.set i (.val d)) := by
  have ex : Ext F (upd F p o') := Ext.upd hf
  have up : ∀ q u, q ≠ p → H q = some u → upd H p o' q = some u := fun q u n e => by rw [upd_ne n]; exact e
  refine ⟨by rw [List.length_set]; exact I.len, I.f0.trans ex, ?_, ?_, ?_, ?_, ?_, ?_, I.hb, (TbOk.mk (tabs_upd I.tb.t hh nt nc) I.tb.n).seal upd_same nt'⟩
  · intro a o' q
    by_cases z : a = p
    · subst z; rw [upd_same] at q; cases q; exact upd_same
    · rw [upd_ne z] at q; exact up _ _ z (I.fh _ _ q)
  · intro q u hq hB n
    exact up q u (fun z => by rw [z, h0] at hq; cases hq) (I.fr q u hq hB n)
  · intro q u hq
    obtain ⟨u', e⟩ := I.al q u hq
    exact ⟨u', up q u' (fun z => by rw [z, h0] at hq; cases hq) e⟩
  · intro q o hq hn
    have z : q ≠ p := fun z => by subst z; rw [h0] at hq; cases hq
    rw [upd_ne z]; exact I.n0 q o hq hn
  · intro j s hs
    by_cases hj : i = j
    · subst hj
      have hl : i < ρ.length := (List.getElem?_eq_some_iff.mp h).1
      rw [List.getElem?_set_self hl] at hs
      cases hs
      exact ⟨_, h1, rd⟩
    · rw [List.getElem?_set_ne hj] at hs
      obtain ⟨ov, g1, g2⟩ := I.sl j s hs
      refine ⟨ov, g1, ?_⟩
      have ne : ∀ q, s.mut = true → ov = some (V.ref q) → q ≠ p := fun q hm e z => hj (I.ap i j _ _ _ _ h hs hm0 hm h1 (by rw [g1, e]) z.symm)
      cases s with
      | no => cases ov <;> trivial
      | val d =>
        cases ov with
        | none => exact g2
        | some v => exact Rep.ext ex g2
      | lam g0 =>
        cases ov with
        | none => exact g2
        | some v => exact (let ⟨f1, z1, z2⟩ := g2; ⟨f1, z1, z2.move ex fun q0 u0 e1 e2 => have nz : q0 ≠ p := fun z => by { subst z; rw [hh] at e1; cases e1; exact nl e2 }; ⟨up q0 u0 nz e1, fun e3 => by rw [upd_ne nz]; exact e3⟩⟩)
      | own ys =>
        cases ov with
        | none => exact g2
        | some v =>
          obtain ⟨q, e, a1, a2, ws, a3, a4⟩ := g2
          exact ⟨q, e, a1, by rw [upd_ne (ne q rfl (by rw [e]))]; exact a2, ws, up q _ (ne q rfl (by rw [e])) a3, a4.ext ex⟩
      | bor ys =>
        cases ov with
        | none => exact g2
        | some v =>
          obtain ⟨q, e, a1, a2, ws, a3, a4⟩ := g2
          exact ⟨q, e, a1, by rw [upd_ne (ne q rfl (by rw [e]))]; exact a2, ws, up q _ (ne q rfl (by rw [e])) a3, a4.ext ex⟩
      | slf k ys =>
        cases ov with
        | none => exact g2
        | some v =>
          obtain ⟨q, e, a1, a2, dx, fs, a3, a4, a5⟩ := g2
          exact ⟨q, e, a1, by rw [upd_ne (ne q rfl (by rw [e]))]; exact a2, dx, fs, up q _ (ne q rfl (by rw [e])) a3, a4, a5.ext ex⟩
      | dic bb ks ys =>
        cases ov with
        | none => exact g2
        | some v =>
          obtain ⟨q, e, a1, a2, ws, a3, a4⟩ := g2
          exact ⟨q, e, a1, by rw [upd_ne (ne q rfl (by rw [e]))]; exact a2, ws, a3.ext ex fun u z => up q u (ne q rfl (by rw [e])) z, a4.ext ex⟩
  · intro a b s t p' q' ha hb ms mt
    by_cases ha' : i = a
    · subst ha'
      have hl : i < ρ.length := (List.getElem?_eq_some_iff.mp h).1
      rw [List.getElem?_set_self hl] at ha
      cases ha
      cases ms
    · by_cases hb' : i = b
      · subst hb'
        have hl : i < ρ.length := (List.getElem?_eq_some_iff.mp h).1
        rw [List.getElem?_set_self hl] at hb
        cases hb
        cases mt
      · rw [List.getElem?_set_ne ha'] at ha
        rw [List.getElem?_set_ne hb'] at hb
        exact I.ap a b s t p' q' ha hb ms mt
theorem upd_id {H : Hp} {p : Addr} {o : HO} (h : H p = some o) : upd H p o = H := by
  funext b
  by_cases z : b = p
  · subst z; rw [upd_same, h]
  · rw [upd_ne z]
theorem Ok.freezeAt {F H : Hp} {σ : VS.St} {ρ : Rho} (I : Ok c F H σ ρ) {i : Nat} {s0 : Sl} {p : Addr} {o : HO} {d : D} (h : ρ[i]? = some s0) (hm0 : s0.mut = true) (h1 : σ[i]? = some (some (V.ref p))) (h0 : c.H0 p = none) (hh : H p = some o) (nt : ∀ ps, o ≠ .tbl ps) (nc : ∀ c q, o ≠ LamX.CodeO c q) (nl : ¬ LamL o) (hf : F p = none) (rd : Rep c.G (upd F p o) (V.ref p) d) :
    Ok c (upd F p o) H σ (ρ.set i (.val d)) := by
  have k := I.freezeX h hm0 h1 h0 hh nt nc nl hf nt nc nl rd
  rw [upd_id hh] at k
  exact k
theorem Ok.freeze {F H : Hp} {σ : VS.St} {ρ : Rho} (I : Ok c F H σ ρ) {i : Nat} {xs : List D} (h : ρ[i]? = some (.own xs)) :
    ∃ p vs, σ[i]? = some (some (V.ref p)) ∧ H p = some (.lst vs) ∧ F p = none ∧ Reps c.G F vs xs ∧ Ok c (upd F p (.lst vs)) H σ (ρ.set i (.val (.lst xs))) := by
  obtain ⟨ov, h1, h2⟩ := I.sl i _ h
  cases ov with
  | none => exact h2.elim
  | some v =>
    obtain ⟨p, e, h0, hf, vs, hh, r⟩ := h2
    subst e
    exact ⟨p, vs, h1, hh, hf, r, I.freezeAt h rfl h1 h0 hh (fun _ z => by cases z) nc_lst nl_lst hf (Rep.lst upd_same (r.ext (Ext.upd hf)))⟩
def dicU (w : World) (p : Addr) (u : HO) : Prop := (∃ kvs, u = .dK kvs) ∨ ∃ xs, u = rawO w p xs
theorem dicU.mut {w : World} {p : Addr} {u : HO} (d : dicU w p u) : Mut (some u) := by
  rcases d with ⟨kvs, d⟩ | ⟨xs, d⟩ <;> (subst d; exact True.intro)
theorem DicAt.u {w : World} {b : Bool} {F H : Hp} {p : Addr} {ks : List NestedKey} {vs : List V} (d : DicAt w b none F H p ks vs) : ∃ u, H p = some u ∧ dicU w p u ∧
    ∀ od F' H', Ext F F' → H' p = some (.frz od u) → DicAt w b (some od) F' H' p ks vs := by
  cases b with
  | true => obtain ⟨xs, d⟩ := d; exact ⟨_, d.at_, .inr ⟨xs, rfl⟩, fun od F' H' x e => ⟨xs, e, d.sys, d.kse, d.nd, d.vse, fun y hy => ⟨(d.ky y hy).1.ext x, (d.ky y hy).2⟩, d.ln⟩⟩
  | false => obtain ⟨kvs, d, r⟩ := d; exact ⟨_, d, .inl ⟨kvs, rfl⟩, fun od F' H' x e => ⟨kvs, e, r⟩⟩
theorem dicU.nt {w : World} {p : Addr} {u : HO} (d : dicU w p u) : ∀ ps, u ≠ .tbl ps := by
  rcases d with ⟨kvs, d⟩ | ⟨xs, d⟩
  · subst d; exact dK_nt
  · subst d; exact raw_nt
theorem dicU.nc {w : World} {p : Addr} {u : HO} (d : dicU w p u) : ∀ c q, u ≠ LamX.CodeO c q := by
  rcases d with ⟨kvs, d⟩ | ⟨xs, d⟩
  · subst d; exact fun c q z => by unfold LamX.CodeO at z; cases z
  · subst d; exact nc_raw
theorem dicU.nl {w : World} {p : Addr} {u : HO} (d : dicU w p u) (l : Option Obj) : ¬ LamL (lkO l u) := by
  rcases d with ⟨kvs, d⟩ | ⟨xs, d⟩
  · subst d; exact nl_lk nl_dK dK_no
  · subst d; exact nl_lk nl_raw raw_no
theorem Ok.freezeD {F H : Hp} {σ : VS.St} {ρ : Rho} (I : Ok c F H σ ρ) {i : Nat} {b : Bool} {ks : List NestedKey} {ds : List D} (h : ρ[i]? = some (.dic b ks ds)) :
    ∃ p u, σ[i]? = some (some (V.ref p)) ∧ H p = some u ∧ Mut (some u) ∧ ∀ od, ∃ F', Ext F F' ∧ Rep c.G F' (V.ref p) (.dct b ks ds) ∧ Ok c F' (upd H p (.frz od u)) σ (ρ.set i (.val (.dct b ks ds))) := by
  obtain ⟨ov, h1, h2⟩ := I.sl i _ h
  cases ov with
  | none => exact h2.elim
  | some v =>
    obtain ⟨p, e, h0, hf, vs, hd, r⟩ := h2
    subst e
    obtain ⟨u, hh, du, mk⟩ := hd.u
    refine ⟨p, u, h1, hh, du.mut, fun od => ?_⟩
    have ex : Ext F (upd F p (.frz od u)) := Ext.upd hf
    have rd : Rep c.G (upd F p (.frz od u)) (V.ref p) (.dct b ks ds) := .dct (b := b) (od := od) (mk od _ _ ex upd_same) (r.ext ex)
    exact ⟨_, ex, rd, I.freezeX h rfl h1 h0 hh du.nt du.nc (du.nl none) hf (fun _ z => by cases z) (fun _ _ z => by unfold LamX.CodeO at z; cases z) (du.nl (some od)) rd⟩
def tVarL (i : Nat) : TE := fun σ H Q => ∃ v, σ[i]? = some (some v) ∧ (Q v H ∨ ∃ p u, v = V.ref p ∧ H p = some u ∧ Mut (some u) ∧ ∀ od, Q v (upd H p (.frz od u)))
theorem pe_varL {e : Expr} {i : Nat} (h : PE X e (tVar i)) : PE X e (tVarL i) := by
  refine ⟨fun pins s σ H Q I k => ?_⟩
  obtain ⟨v, h1, h2⟩ := k
  refine thn (h.run pins s σ H (fun w H1 => w = v ∧ H1 = H) I ⟨v, h1, rfl, rfl⟩) fun u s1 ⟨w, H1, I1, r1, ew, eH⟩ => ?_
  subst ew eH
  rcases h2 with q | ⟨p, u0, ev, hp, mu, q⟩
  · exact ⟨_, _, I1, r1, q⟩
  · obtain ⟨od, I2⟩ := I1.lock hp mu
    exact ⟨_, _, I2, r1, q od⟩
theorem ve_var {e : Expr} {i : Nat} (h : PE X e (tVar i)) : PE X e (vt c (sV i)) := by
  refine pe_of (pe_varL h) fun σ H Q ⟨F, ρ, I, d, ρ', e, q⟩ => ?_
  unfold sV at e
  split at e
  · rename_i d' hd
    cases e
    obtain ⟨ov, h1, h2⟩ := I.sl i _ hd
    cases ov with
    | none => exact h2.elim
    | some v => exact ⟨v, h1, .inl (q v H F Ext.rfl' I h2)⟩
  · rename_i xs hd
    cases e
    obtain ⟨p, vs, h1, h2, h3, h4, h5⟩ := I.freeze hd
    exact ⟨_, h1, .inl (q _ H _ (Ext.upd h3) h5 (Rep.lst upd_same (h4.ext (Ext.upd h3))))⟩
  · rename_i bb ks ds hd
    cases e
    obtain ⟨p, u, h1, hh, mu, mk⟩ := I.freezeD hd
    refine ⟨_, h1, .inr ⟨p, u, rfl, hh, mu, fun od => ?_⟩⟩
    obtain ⟨F', h2, h3, h4⟩ := mk od
    exact q _ _ _ h2 h4 h3
  · cases e
theorem ve_k {e : Expr} {v : V} {d : D} (h : PE X e (tC v)) (r : ∀ F, Rep c.G F v d) : PE X e (vt c (sK d)) := by
  refine pe_of h fun σ H Q ⟨F, ρ, I, d', ρ', e, q⟩ => ?_
  cases e
  exact q v H F Ext.rfl' I (r F)
theorem ve_int {i : Int} {j pos} : PE X (.Constant (.int i) j pos) (vt c (sK (.int i))) := ve_k pe_int fun _ => .int i
theorem ve_bl {b : Bool} {j pos} : PE X (.Constant (.bool b) j pos) (vt c (sK (.bl b))) := ve_k pe_bl fun _ => .bl b
theorem ve_non {j pos} : PE X (.Constant .none j pos) (vt c (sK .non)) := ve_k pe_non fun _ => .non
theorem ve_str {x : Str} {j pos} : PE X (.Constant (.str x) j pos) (vt c (sK (.str x))) := ve_k pe_str fun _ => .str x
end
end VS

set_option Elab.async false
set_option linter.all false
set_option maxRecDepth 100000
set_option maxHeartbeats 4000000
namespace VS
open PySem PySem.Spec PyProof.Rows L2

abbrev LN : Nat := 1000000
theorem ln_fit {n : Nat} (h : n ≤ LN) : n ≤ sizeLine := Nat.le_trans h (by rw [sizeLine_eq]; decide)
abbrev G1 := D → Option D
abbrev G2 := D → D → Option D
abbrev GL := List D → Option D

def Aft (G : Gx) (F H : Hp) (d : D) (Q : VK) : Prop := ∀ v H' F', Grow F H F' H' → Rep G F' v d → Q v H'
theorem Aft.here {G : Gx} {F H : Hp} {d : D} {Q : VK} {v : V} (q : Aft G F H d Q) (e : Ext F H) (r : Rep G F v d) : Q v H := q v H F (.refl e) r
theorem Aft.newL {G : Gx} {F H : Hp} {vs : List V} {ds : List D} {Q : VK} (q : Aft G F H (.lst ds) Q) (e : Ext F H) (r : Reps G F vs ds) : ∀ p, H p = none → Q (.ref p) (upd H p (.lst vs)) :=
  fun p h => q _ _ _ (.new e h) (.lst upd_same (r.ext (Ext.upd (ext_none e h))))
theorem Aft.newT {G : Gx} {F H : Hp} {vs : List V} {ds : List D} {Q : VK} (q : Aft G F H (.tup ds) Q) (e : Ext F H) (r : Reps G F vs ds) : ∀ p, H p = none → Q (.ref p) (upd H p (.tup vs)) :=
  fun p h => q _ _ _ (.new e h) (.tup upd_same (r.ext (Ext.upd (ext_none e h))))

def rD (G : Gx) (g : G2) : R2 := fun x y H Q => ∃ F a b d, Ext F H ∧ Rep G F x a ∧ Rep G F y b ∧ g a b = some d ∧ Aft G F H d Q
def rL (G : Gx) (g : GL) : List V → Hp → VK → Prop := fun xs H Q => ∃ F ds d, Ext F H ∧ Reps G F xs ds ∧ g ds = some d ∧ Aft G F H d Q
abbrev OpD (c : Ctx) (X : Cx) (f : Value → Value → Sem Value) (g : G2) := OpR X f (rD c.G g)
abbrev CaD (c : Ctx) (X : Cx) (f : Value) (g : GL) := CallR X f (rL c.G g)
theorem opr_of {X : Cx} {f : Value → Value → Sem Value} {r r' : R2} (h : OpR X f r) (w : ∀ x y H Q, r' x y H Q → r x y H Q) : OpR X f r' :=
  fun pins s σ H x y v u Q I rx ry q => h pins s σ H x y v u Q I rx ry (w x y H Q q)
theorem car_of {X : Cx} {f : Value} {r r' : List V → Hp → VK → Prop} (h : CallR X f r) (w : ∀ x H Q, r' x H Q → r x H Q) : CallR X f r' :=
  fun pins s σ H x us Q I rx q => h pins s σ H x us Q I rx (w x H Q q)

def s2 (g : G2) (a b : SE) : SE := fun ρ => match a ρ with
  | some (x, ρ1) => match b ρ1 with
    | some (y, ρ2) => match g x y with
      | some d => some (d, ρ2)
      | none => none
    | none => none
  | none => none
def s1 (g : G1) (a : SE) : SE := fun ρ => match a ρ with
  | some (x, ρ1) => match g x with
    | some d => some (d, ρ1)
    | none => none
  | none => none
theorem s2_inv {g : G2} {a b : SE} {ρ : Rho} {d : D} {ρ' : Rho} (h : s2 g a b ρ = some (d, ρ')) : ∃ x ρ1 y, a ρ = some (x, ρ1) ∧ b ρ1 = some (y, ρ') ∧ g x y = some d := by
  unfold s2 at h
  split at h
  · split at h
    · split at h
      · cases h; exact ⟨_, _, _, by assumption, by assumption, by assumption⟩
      · cases h
    · cases h
  · cases h
theorem s1_inv {g : G1} {a : SE} {ρ : Rho} {d : D} {ρ' : Rho} (h : s1 g a ρ = some (d, ρ')) : ∃ x, a ρ = some (x, ρ') ∧ g x = some d := by
  unfold s1 at h
  split at h
  · split at h
    · cases h; exact ⟨_, by assumption, by assumption⟩
    · cases h
  · cases h
section
variable {c : Ctx} {X : Cx} {a b : Expr} {sa sb : SE} {pos : Pos}
theorem vt2 {g : G2} {σ : L2.St} {H : Hp} {Q : VK} (h : vt c (s2 g sa sb) σ H Q) : tOp (rD c.G g) (vt c sa) (vt c sb) σ H Q := by
  obtain ⟨F, ρ, I, d, ρ', e, q⟩ := h
  obtain ⟨x, ρ1, y, e1, e2, e3⟩ := s2_inv e
  refine ⟨F, ρ, I, x, ρ1, e1, fun v H1 F1 x1 I1 r1 => ⟨F1, ρ1, I1, y, ρ', e2, fun w H2 F2 x2 I2 r2 => ?_⟩⟩
  exact ⟨F2, x, y, d, I2.fh, r1.ext x2, r2, e3, fun v H' F' g r => q v H' F' ((x1.trans x2).trans g.f) (I2.grow g) r⟩
theorem ve_op {op : Operator} {g : G2} (ho : OpD c X (binaryOp op) g) (ha : PE X a (vt c sa)) (hb : PE X b (vt c sb)) : PE X (.BinOp a op b pos) (vt c (s2 g sa sb)) :=
  pe_of (pe_op ho ha hb) fun _ _ _ h => vt2 h
theorem ve_cmp {op : CmpOp} {g : G2} (ho : OpD c X (compareOp op) g) (ha : PE X a (vt c sa)) (hb : PE X b (vt c sb)) (hm : behindInMarks op b = false := by first | exact nomark _ | rfl) : PE X (.Compare a [op] [b] pos) (vt c (s2 g sa sb)) :=
  pe_of (pe_cmpR ho ha hb hm) fun _ _ _ h => vt2 h
def sB (s : SE) : SB := fun ρ => match s ρ with
  | some (.bl b, ρ') => some (b, ρ')
  | _ => none
theorem sB_inv {s : SE} {ρ : Rho} {b : Bool} {ρ' : Rho} (h : sB s ρ = some (b, ρ')) : s ρ = some (.bl b, ρ') := by
  unfold sB at h
  split at h
  · cases h; assumption
  · cases h
theorem vb_test {t : TE} {s : SE} {σ : L2.St} {H : Hp} {Q : Bool → Hp → Prop} (w : ∀ Q, vt c s σ H Q → t σ H Q) (h : vb c (sB s) σ H Q) : t σ H fun x H' => ∃ k, x = .bl k ∧ Q k H' := by
  obtain ⟨F, ρ, I, b, ρ', e, q⟩ := h
  refine w _ ⟨F, ρ, I, .bl b, ρ', sB_inv e, fun v H' F' x I' r => ?_⟩
  cases r
  exact ⟨b, rfl, q H' F' x I'⟩
theorem vt_cmp {op : CmpOp} {g : G2} (ho : OpD c X (compareOp op) g) (ha : PE X a (vt c sa)) (hb : PE X b (vt c sb)) (hm : behindInMarks op b = false := by first | exact nomark _ | rfl) : PT X (.Compare a [op] [b] pos) (vb c (sB (s2 g sa sb))) :=
  pt_of (pt_cmpR ho ha hb hm) fun _ _ _ h => vb_test (fun _ => vt2) h
theorem vt_val {e : Expr} {s : SE} (h : PE X e (vt c s)) (he : ∀ whole, isTrue e X.env whole = (do let v ← whole; standAt e.pos; holding [v] (truthy v)) := by intro _; rfl) : PT X e (vb c (sB s)) :=
  pt_of (pt_val h he) fun _ _ _ h => vb_test (fun _ z => z) h
end

abbrev Bd (i : Int) : Prop := i.natAbs < 2 ^ 4000
theorem Bd.log {i : Int} (h : Bd i) : i.natAbs.log2 < 4000 := PySem.Flt.log2_lt_of (by decide) h
def gSub : G2
  | .int a, .int b => some (.int (a - b))
  | _, _ => none
def gMul : G2
  | .int a, .int b => if Bd a ∧ Bd b then some (.int (a * b)) else none
  | _, _ => none
def gFdiv : G2
  | .int a, .int b => if 0 < b ∧ Bd b then some (.int (a / b)) else none
  | _, _ => none
def gMod : G2
  | .int a, .int b => if 0 < b then some (.int (a % b)) else none
  | _, _ => none
def gPow : G2
  | .int a, .int b => if 0 ≤ b ∧ (Builtin.Int.intBits a : Int) * b ≤ 2 ^ 27 then some (.int (a ^ b.toNat)) else none
  | _, _ => none
def gCmp (p : Int → Int → Bool) : G2
  | .int a, .int b => some (.bl (p a b))
  | _, _ => none
def gLt : G2 := gCmp fun a b => decide (a < b)
def gLe : G2 := gCmp fun a b => decide (a ≤ b)
def gGt : G2 := gCmp fun a b => decide (b < a)
def gGe : G2 := gCmp fun a b => decide (b ≤ a)
def gNeg : G1
  | .int a => some (.int (-a))
  | _ => none
def gAdd : G2
  | .int a, .int b => some (.int (a + b))
  | .str a, .str b => if a.length + b.length ≤ LN then some (.str (a ++ b)) else none
  | .lst a, .lst b => if a.length + b.length ≤ LN then some (.lst (a ++ b)) else none
  | .tup a, .tup b => if a.length + b.length ≤ LN then some (.tup (a ++ b)) else none
  | _, _ => none
section
variable {c : Ctx} {X : Cx}
theorem od_sub : OpD c X (binaryOp .Sub) gSub := opr_of op_sub fun x y H Q ⟨F, a, b, d, e, ra, rb, hg, q⟩ => by
  unfold gSub at hg
  split at hg
  · cases hg; cases ra; cases rb; exact ⟨_, _, rfl, rfl, q.here e (.int _)⟩
  · cases hg
theorem od_mul : OpD c X (binaryOp .Mult) gMul := opr_of op_mulW fun x y H Q ⟨F, a, b, d, e, ra, rb, hg, q⟩ => by
  unfold gMul at hg
  split at hg
  · split at hg
    · rename_i h
      cases hg; cases ra; cases rb
      exact ⟨_, _, rfl, rfl, (by have h1 := h.1.log; have h2 := h.2.log; unfold CMulW; omega), q.here e (.int _)⟩
    · cases hg
  · cases hg
theorem od_fdiv : OpD c X (binaryOp .FloorDiv) gFdiv := opr_of op_fdivW fun x y H Q ⟨F, a, b, d, e, ra, rb, hg, q⟩ => by
  unfold gFdiv at hg
  split at hg
  · split at hg
    · rename_i h
      cases hg; cases ra; cases rb
      exact ⟨_, _, rfl, rfl, ⟨h.1, by have := h.2.log; omega⟩, q.here e (.int _)⟩
    · cases hg
  · cases hg
theorem od_mod : OpD c X (binaryOp .Mod) gMod := opr_of op_mod fun x y H Q ⟨F, a, b, d, e, ra, rb, hg, q⟩ => by
  unfold gMod at hg
  split at hg
  · split at hg
    · rename_i h
      cases hg; cases ra; cases rb
      exact ⟨_, _, rfl, rfl, h, q.here e (.int _)⟩
    · cases hg
  · cases hg
theorem od_pow : OpD c X (binaryOp .Pow) gPow := by
  intro pins s σ H x y v u Q I rx ry ⟨F, a, b, d, e, ra, rb, hg, q⟩
  unfold gPow at hg
  split at hg
  · split at hg
    · rename_i h
      cases hg; cases ra; cases rb
      obtain ⟨t, rfl⟩ := rx
      obtain ⟨t', rfl⟩ := ry
      exact pow_int h.1 h.2 ⟨.int _, H, I.tok _, ⟨_, rfl⟩, q.here e (.int _)⟩
    · cases hg
  · cases hg
theorem od_cmp {op : CmpOp} {p : Int → Int → Bool} (h : OpR X (compareOp op) (rI0 fun i j => .bl (p i j))) : OpD c X (compareOp op) (gCmp p) := opr_of h fun x y H Q ⟨F, a, b, d, e, ra, rb, hg, q⟩ => by
  unfold gCmp at hg
  split at hg
  · cases hg; cases ra; cases rb; exact ⟨_, _, rfl, rfl, q.here e (.bl _)⟩
  · cases hg
theorem od_lt : OpD c X (compareOp .Lt) gLt := od_cmp op_lt
theorem od_le : OpD c X (compareOp .LtE) gLe := od_cmp op_le
theorem od_gt : OpD c X (compareOp .Gt) gGt := od_cmp op_gt
theorem od_ge : OpD c X (compareOp .GtE) gGe := od_cmp op_ge
theorem od_add : OpD c X (binaryOp .Add) gAdd :=
  opr_of ((op_add.or op_add_str).or (op_cat.or op_catA)) fun x y H Q ⟨F, a, b, d, e, ra, rb, hg, q⟩ => by
  unfold gAdd at hg
  split at hg
  · cases hg; cases ra; cases rb; exact .inl (.inl ⟨_, _, rfl, rfl, q.here e (.int _)⟩)
  · split at hg
    · rename_i h
      cases hg; cases ra; cases rb; exact .inl (.inr ⟨_, _, rfl, rfl, ln_fit h, q.here e (.str _)⟩)
    · cases hg
  · split at hg
    · rename_i h
      cases hg
      cases ra with
      | lst h1 r1 =>
        cases rb with
        | lst h2 r2 =>
          refine .inr (.inl ⟨_, _, _, _, rfl, rfl, e _ _ h1, e _ _ h2, by rw [r1.length, r2.length]; exact ln_fit h, fun p hp => q.newL e (r1.append r2) p hp⟩)
    · cases hg
  · split at hg
    · rename_i h
      cases hg
      cases ra with
      | tup h1 r1 =>
        cases rb with
        | tup h2 r2 =>
          refine .inr (.inr ⟨_, _, _, _, rfl, rfl, .of (e _ _ h1), .of (e _ _ h2), by rw [r1.length, r2.length]; exact ln_fit h, fun z => ?_, fun _ z => ?_, fun _ _ p hp => q.newT e (r1.append r2) p hp⟩)
          · subst z; cases r1; exact q.here e (.tup h2 r2)
          · subst z; cases r2; rw [List.append_nil] at q; exact q.here e (.tup h1 r1)
    · cases hg
  · cases hg
end
end VS

set_option Elab.async false
set_option linter.all false
set_option maxRecDepth 100000
set_option maxHeartbeats 4000000
namespace VS
open PySem PySem.Spec PyProof.Rows L2

mutual
def toP : D → Option PyData
  | .non => some .none
  | .bl b => some (.bool b)
  | .int i => some (.int i)
  | .str x => some (.str x)
  | .lst xs => match toPs xs with
    | some ys => some (.list ys)
    | none => none
  | .tup xs => match toPs xs with
    | some ys => some (.tuple ys)
    | none => none
  | _ => none
def toPs : List D → Option (List PyData)
  | [] => some []
  | d :: ds => match toP d, toPs ds with
    | some x, some xs => some (x :: xs)
    | _, _ => none
end
mutual
theorem Rep.dp {G : Gx} {F : Hp} {K : PySem.W.Frag} {H : Hp} (e : Ext F H) : ∀ {v : V} {d : D} {x : PyData}, Rep G F v d → toP d = some x → Dp K H v x
  | _, _, _, .non, h => by cases h; exact .non
  | _, _, _, .bl b, h => by cases h; exact .bl b
  | _, _, _, .int b, h => by cases h; exact .int b
  | _, _, _, .str b, h => by cases h; exact .str b
  | _, _, _, .adr a, h => by cases h
  | _, _, _, .scr _ _, h => by cases h
  | _, _, _, .ins _ _ _, h => by cases h
  | _, _, _, .dct _ _, h => by unfold toP at h; cases h
  | _, _, _, .exc _ _ _, h => by unfold toP at h; cases h
  | _, _, _, .bth _, h => by unfold toP at h; cases h
  | _, _, _, .lst h1 r, h => by
    unfold toP at h
    split at h
    · rename_i ys hy; cases h; exact .lst (.of (e _ _ h1)) (Reps.dp e r hy)
    · cases h
  | _, _, _, .tup h1 r, h => by
    unfold toP at h
    split at h
    · rename_i ys hy; cases h; exact .tup (.of (e _ _ h1)) (Reps.dp e r hy)
    · cases h
theorem Reps.dp {G : Gx} {F : Hp} {K : PySem.W.Frag} {H : Hp} (e : Ext F H) : ∀ {vs : List V} {ds : List D} {xs : List PyData}, Reps G F vs ds → toPs ds = some xs → DpAll K H vs xs
  | _, _, _, .nil, h => by unfold toPs at h; cases h; exact .nil
  | _, _, _, .cons h1 r, h => by
    unfold toPs at h
    split at h
    · rename_i y ys h2 h3; cases h; exact .cons (Rep.dp e h1 h2) (Reps.dp e r h3)
    · cases h
end
def scalE : D → D → Option Bool
  | .int a, .int b => some (decide (a = b))
  | .str a, .str b => some (decide (a = b))
  | .bl a, .bl b => some (decide (a = b))
  | .non, .non => some true
  | .non, .int _ => some false | .int _, .non => some false | .non, .bl _ => some false | .bl _, .non => some false
  | .non, .str _ => some false | .str _, .non => some false | .int _, .str _ => some false | .str _, .int _ => some false
  | _, _ => none
def eqD (a b : D) : Option Bool := match scalE a b with
  | some r => some r
  | none => match toP a, toP b with
    | some x, some y => if SeqAt.shaped x = true ∧ SeqAt.shaped y = true then some (PyData.eqv x y) else none
    | _, _ => none
def gEq : G2 := fun a b => (eqD a b).map .bl
def gNe : G2 := fun a b => (eqD a b).map fun r => .bl (!r)
theorem scal_of {G : Gx} {F : Hp} {x y : V} {a b : D} {r : Bool} (ra : Rep G F x a) (rb : Rep G F y b) (h : scalE a b = some r) : scal x y = true ∧ decide (x = y) = r := by
  unfold scalE at h
  split at h
  all_goals first
    | (cases h; cases ra; cases rb; exact ⟨rfl, by simp⟩)
    | cases h
section
variable {c : Ctx} {X : Cx}
theorem od_eq (hu : X.A.units + 64 < cLine) : OpD c X (compareOp .Eq) gEq := opr_of (op_eq.or (op_eqD hu)) fun x y H Q ⟨F, a, b, d, e, ra, rb, hg, q⟩ => by
  unfold gEq eqD at hg
  cases h : scalE a b with
  | some r =>
    rw [h] at hg; cases hg
    obtain ⟨h1, h2⟩ := scal_of ra rb h
    exact .inl ⟨h1, by rw [h2]; exact q.here e (.bl _)⟩
  | none =>
    rw [h] at hg
    dsimp only at hg
    split at hg
    · rename_i x' y' h1 h2
      split at hg
      · rename_i hs
        cases hg
        exact .inr ⟨x', y', ra.dp e h1, rb.dp e h2, hs.1, hs.2, q.here e (.bl _)⟩
      · cases hg
    · cases hg
theorem od_ne (hu : X.A.units + 64 < cLine) : OpD c X (compareOp .NotEq) gNe := opr_of (op_ne.or (op_neD hu)) fun x y H Q ⟨F, a, b, d, e, ra, rb, hg, q⟩ => by
  unfold gNe eqD at hg
  cases h : scalE a b with
  | some r =>
    rw [h] at hg; cases hg
    obtain ⟨h1, h2⟩ := scal_of ra rb h
    exact .inl ⟨h1, by rw [h2]; exact q.here e (.bl _)⟩
  | none =>
    rw [h] at hg
    dsimp only at hg
    split at hg
    · rename_i x' y' h1 h2
      split at hg
      · rename_i hs
        cases hg
        exact .inr ⟨x', y', ra.dp e h1, rb.dp e h2, hs.1, hs.2, q.here e (.bl _)⟩
      · cases hg
    · cases hg
end

def flatD : D → Bool
  | .non => true | .bl _ => true | .int _ => true | .str _ => true | _ => false
def eqF : D → D → Bool
  | .non, .non => true
  | .bl a, .bl b => a == b
  | .bl a, .int b => (if a then 1 else 0) == b
  | .int a, .bl b => a == (if b then 1 else 0)
  | .int a, .int b => a == b
  | .str a, .str b => a == b
  | _, _ => false
theorem flat_of {G : Gx} {F : Hp} {x : V} {a : D} (ra : Rep G F x a) (h : flatD a = true) : flatV x = true := by
  cases ra <;> first | rfl | cases h
theorem eqF_of {G : Gx} {F : Hp} {x y : V} {a b : D} (ra : Rep G F x a) (rb : Rep G F y b) (h : flatD a = true) (h' : flatD b = true) : eqV x y = eqF a b := by
  cases ra <;> first | (cases rb <;> first | rfl | cases h') | cases h
theorem flats_of {G : Gx} {F : Hp} : ∀ {xs : List V} {as : List D}, Reps G F xs as → as.all flatD = true → xs.all flatV = true
  | _, _, .nil, _ => rfl
  | _, _, .cons h r, e => by
    simp only [List.all_cons, Bool.and_eq_true] at e ⊢
    exact ⟨flat_of h e.1, flats_of r e.2⟩
theorem anyF_of {G : Gx} {F : Hp} {y : V} {b : D} (rb : Rep G F y b) (hb : flatD b = true) : ∀ {xs : List V} {as : List D}, Reps G F xs as → as.all flatD = true → (xs.any fun x => eqV x y) = as.any fun a => eqF a b
  | _, _, .nil, _ => rfl
  | _, _, .cons h r, e => by
    simp only [List.all_cons, Bool.and_eq_true] at e
    simp only [List.any_cons]
    rw [eqF_of h rb e.1 hb, anyF_of rb hb r e.2]
def inD (a : D) (xs : List D) : Option Bool := if flatD a = true ∧ xs.all flatD = true then some (xs.any fun x => eqF x a) else none
def inB : D → D → Option Bool
  | a, .lst xs => inD a xs
  | a, .tup xs => inD a xs
  | .str ⟨⟨[k]⟩⟩, .str z => some (decide (k ∈ z.cps.toList))
  | _, _ => none
def gNotIn : G2 := fun a b => (inB a b).map fun r => .bl (!r)
theorem in_of {G : Gx} {F H : Hp} {K : PySem.W.Frag} {x y : V} {a b : D} {r : Bool} (e : Ext F H) (ra : Rep G F x a) (rb : Rep G F y b) (h : inB a b = some r) :
    (∃ p xs, y = .ref p ∧ (SqL K H p xs ∨ SqT K H p xs) ∧ flatV x = true ∧ xs.all flatV = true ∧ inV x xs = r) ∨ (∃ (k : Nat) (z : Str), x = .str ⟨#[k]⟩ ∧ y = .str z ∧ decide (k ∈ z.cps.toList) = r) := by
  have core : ∀ {ds : List D} {vs : List V}, Reps G F vs ds → inD a ds = some r → flatV x = true ∧ vs.all flatV = true ∧ inV x vs = r := fun {ds vs} rs h => by
    unfold inD at h
    split at h
    · rename_i h1
      cases h
      exact ⟨flat_of ra h1.1, flats_of rs h1.2, anyF_of ra h1.1 rs h1.2⟩
    · cases h
  unfold inB at h
  split at h
  · cases rb with
    | lst h1 rs => exact .inl ⟨_, _, rfl, .inl (.of (e _ _ h1)), core rs h⟩
  · cases rb with
    | tup h1 rs => exact .inl ⟨_, _, rfl, .inr (.of (e _ _ h1)), core rs h⟩
  · cases h; cases ra; cases rb; exact .inr ⟨_, _, rfl, rfl, rfl⟩
  · cases h
section
variable {c : Ctx} {X : Cx}
theorem od_notin : OpD c X (compareOp .NotIn) gNotIn := opr_of (op_notIn_seq.or op_notIn_sign) fun x y H Q ⟨F, a, b, d, e, ra, rb, hg, q⟩ => by
  unfold gNotIn at hg
  cases h : inB a b with
  | none => rw [h] at hg; cases hg
  | some r =>
    rw [h] at hg; cases hg
    rcases in_of (K := X.K) e ra rb h with ⟨p, xs, h1, h2, h3, h4, h5⟩ | ⟨k, z, h1, h2, h3⟩
    · exact .inl ⟨p, xs, h1, h2, h3, h4, by subst h5; exact q.here e (.bl _)⟩
    · exact .inr ⟨k, z, h1, h2, by rw [h3]; exact q.here e (.bl _)⟩
def isN : D → Bool
  | .non => true
  | _ => false
def gIsN : G1 := fun a => some (.bl (isN a))
theorem isN_of {G : Gx} {F : Hp} {x : V} {a : D} (r : Rep G F x a) : decide (x = V.non) = isN a := by cases r <;> simp [isN]
theorem vt_isN {a : Expr} {sa : SE} {j pos pos'} (ha : PE X a (vt c sa)) : PT X (.Compare a [.Is] [.Constant .none j pos'] pos) (vb c (sB (s1 gIsN sa))) := by
  refine pt_of (pt_cmp (pc_isN ha) rfl) fun σ H Q h => ?_
  obtain ⟨F, ρ, I, b, ρ', e, q⟩ := h
  obtain ⟨x, e1, e2⟩ := s1_inv (sB_inv e)
  cases e2
  exact ⟨F, ρ, I, x, ρ', e1, fun v H1 F1 x1 I1 r1 => ⟨_, rfl, by rw [isN_of r1]; exact q _ _ x1 I1⟩⟩
def sCh (g g' : G2) (a b d : SE) : SE := fun ρ => match a ρ with
  | some (x, ρ1) => match b ρ1 with
    | some (y, ρ2) => match g x y with
      | some (.bl true) => match d ρ2 with
        | some (z, ρ3) => match g' y z with
          | some r => some (r, ρ3)
          | none => none
        | none => none
      | some (.bl false) => some (.bl false, ρ2)
      | _ => none
    | none => none
  | none => none
theorem chain_w {sa sb sd : SE} {g g' : G2} (σ : L2.St) (H : Hp) (Q : VK) (h : vt c (sCh g g' sa sb sd) σ H Q) : tChain (rD c.G g) (rD c.G g') (vt c sa) (vt c sb) (vt c sd) σ H Q := by
  obtain ⟨F, ρ, I, d, ρ', e, q⟩ := h
  unfold sCh at e
  split at e
  · rename_i x ρ1 e1
    split at e
    · rename_i y ρ2 e2
      refine ⟨F, ρ, I, x, ρ1, e1, fun v H1 F1 x1 I1 r1 => ⟨F1, ρ1, I1, y, ρ2, e2, fun w H2 F2 x2 I2 r2 => ?_⟩⟩
      split at e
      · rename_i e3
        split at e
        · rename_i z ρ3 e4
          split at e
          · rename_i r e5
            cases e
            refine ⟨F2, x, y, _, I2.fh, r1.ext x2, r2, e3, fun v3 H3 F3 g3 r3 => ?_⟩
            cases r3
            refine ⟨true, rfl, iteT ⟨F3, ρ2, I2.grow g3, z, ρ', e4, fun w4 H4 F4 x4 I4 r4 => ?_⟩⟩
            exact ⟨F4, y, z, _, I4.fh, (r2.ext g3.f).ext x4, r4, e5, fun v5 H5 F5 g5 r5 => q _ _ _ (((x1.trans x2).trans g3.f).trans (x4.trans g5.f)) (I4.grow g5) r5⟩
          · cases e
        · cases e
      · rename_i e3
        cases e
        refine ⟨F2, x, y, _, I2.fh, r1.ext x2, r2, e3, fun v3 H3 F3 g3 r3 => ?_⟩
        cases r3
        exact ⟨false, rfl, iteF (q _ _ _ ((x1.trans x2).trans g3.f) (I2.grow g3) (.bl _))⟩
      · cases e
    · cases e
  · cases e
theorem vt_chain {op op' : CmpOp} {g g' : G2} {a b d : Expr} {sa sb sd : SE} {pos} (ho : OpD c X (compareOp op) g) (ho' : OpD c X (compareOp op') g') (ha : PE X a (vt c sa)) (hb : PE X b (vt c sb)) (hd : PE X d (vt c sd))
    (hm : lastMarks [op, op'] [b, d] = false := by with_unfolding_all rfl) : PT X (.Compare a [op, op'] [b, d] pos) (vb c (sB (sCh g g' sa sb sd))) :=
  pt_of (pt_chain ho ho' ha hb hd hm) fun _ _ _ h => vb_test (chain_w _ _) h

def bOr (a b : SB) : SB := fun ρ => match a ρ with
  | some (true, ρ1) => some (true, ρ1)
  | some (false, ρ1) => b ρ1
  | none => none
def bNot (a : SB) : SB := fun ρ => match a ρ with
  | some (b, ρ1) => some (!b, ρ1)
  | none => none
theorem or_w {sa sb : SB} (σ : L2.St) (H : Hp) (Q : Bool → Hp → Prop) (h : vb c (bOr sa sb) σ H Q) : tOr (vb c sa) (vb c sb) σ H Q := by
  obtain ⟨F, ρ, I, b, ρ', e, q⟩ := h
  unfold bOr at e
  split at e
  · rename_i ρ1 e1
    cases e
    exact ⟨F, ρ, I, true, ρ', e1, fun H1 F1 x1 I1 => iteT (q _ _ x1 I1)⟩
  · rename_i ρ1 e1
    exact ⟨F, ρ, I, false, ρ1, e1, fun H1 F1 x1 I1 => iteF ⟨F1, ρ1, I1, b, ρ', e, fun H2 F2 x2 I2 => q _ _ (x1.trans x2) I2⟩⟩
  · cases e
theorem vw_or {a b : Expr} {rest : List Expr} {pos} {sa sb : SB} (ha : PT X a (vb c sa)) (hb : PW X (.BoolOp .Or (b :: rest) pos) (vb c sb)) : PW X (.BoolOp .Or (a :: b :: rest) pos) (vb c (bOr sa sb)) :=
  ⟨fun wh pins s σ H Q I q => (pw_or ha hb).run wh pins s σ H Q I (or_w σ H Q q)⟩
theorem vt_not {a : Expr} {pos} {sa : SB} (ha : PT X a (vb c sa)) : PT X (.UnaryOp .Not a pos) (vb c (bNot sa)) := by
  refine pt_of (pt_not ha) fun σ H Q ⟨F, ρ, I, b, ρ', e, q⟩ => ?_
  unfold bNot at e
  split at e
  · rename_i b' ρ1 e1
    cases e
    exact ⟨F, ρ, I, b', ρ', e1, q⟩
  · cases e
def sAnd (a b : SE) : SE := fun ρ => match a ρ with
  | some (.bl true, ρ1) => b ρ1
  | some (.bl false, ρ1) => some (.bl false, ρ1)
  | _ => none
def gNot : G1
  | .bl b => some (.bl (!b))
  | _ => none
theorem ve_and {a b : Expr} {rest : List Expr} {pos} {sa sb : SE} (ha : PE X a (vt c sa)) (hb : PE X (.BoolOp .And (b :: rest) pos) (vt c sb)) : PE X (.BoolOp .And (a :: b :: rest) pos) (vt c (sAnd sa sb)) := by
  refine pe_of (pe_and ha hb) fun σ H Q ⟨F, ρ, I, d, ρ', e, q⟩ => ?_
  unfold sAnd at e
  split at e
  · rename_i ρ1 e1
    exact ⟨F, ρ, I, _, ρ1, e1, fun v H1 F1 x1 I1 r1 => by cases r1; exact ⟨true, rfl, iteT ⟨F1, ρ1, I1, d, ρ', e, fun v H2 F2 x2 I2 r2 => q _ _ _ (x1.trans x2) I2 r2⟩⟩⟩
  · rename_i ρ1 e1
    cases e
    exact ⟨F, ρ, I, _, ρ', e1, fun v H1 F1 x1 I1 r1 => by cases r1; exact ⟨false, rfl, iteF (q _ _ _ x1 I1 (.bl _))⟩⟩
  · cases e
theorem ve_one {a : Expr} {op} {pos} {sa : SE} (ha : PE X a (vt c sa)) : PE X (.BoolOp op [a] pos) (vt c sa) := pe_one ha
theorem ve_not {a : Expr} {pos} {sa : SE} (ha : PE X a (vt c sa)) : PE X (.UnaryOp .Not a pos) (vt c (s1 gNot sa)) := by
  refine pe_of (pe_not ha) fun σ H Q ⟨F, ρ, I, d, ρ', e, q⟩ => ?_
  obtain ⟨x, e1, e2⟩ := s1_inv e
  unfold gNot at e2
  split at e2
  · cases e2
    exact ⟨F, ρ, I, _, ρ', e1, fun v H1 F1 x1 I1 r1 => by cases r1; exact ⟨_, rfl, q _ _ _ x1 I1 (.bl _)⟩⟩
  · cases e2
theorem ve_neg {a : Expr} {pos} {sa : SE} (ha : PE X a (vt c sa)) : PE X (.UnaryOp .USub a pos) (vt c (s1 gNeg sa)) := by
  refine pe_of (pe_un un_neg ha) fun σ H Q ⟨F, ρ, I, d, ρ', e, q⟩ => ?_
  obtain ⟨x, e1, e2⟩ := s1_inv e
  unfold gNeg at e2
  split at e2
  · cases e2
    exact ⟨F, ρ, I, _, ρ', e1, fun v H1 F1 x1 I1 r1 => by cases r1; exact ⟨_, rfl, q _ _ _ x1 I1 (.int _)⟩⟩
  · cases e2
end
end VS

set_option Elab.async false
set_option linter.all false
set_option maxRecDepth 100000
set_option maxHeartbeats 4000000
namespace VS
open PySem PySem.Spec PyProof.Rows L2

abbrev SA := Rho → Option (List D × Rho)
def va (c : Ctx) (s : SA) : TA := fun σ H Q => ∃ F ρ, Ok c F H σ ρ ∧ ∃ ds ρ', s ρ = some (ds, ρ') ∧ ∀ vs H' F', Ext F F' → Ok c F' H' σ ρ' → Reps c.G F' vs ds → Q vs H'
def aN : SA := fun ρ => some ([], ρ)
def aC (a : SE) (r : SA) : SA := fun ρ => match a ρ with
  | some (x, ρ1) => match r ρ1 with
    | some (xs, ρ2) => some (x :: xs, ρ2)
    | none => none
  | none => none
section
variable {c : Ctx} {X : Cx}
theorem va_nil : PA X [] (va c aN) := pa_of pa_nil fun σ H Q ⟨F, ρ, I, ds, ρ', e, q⟩ => by cases e; exact q [] H F Ext.rfl' I .nil
theorem va_cons {e : Expr} {es : List Expr} {a : SE} {r : SA} (ha : PE X e (vt c a)) (hr : PA X es (va c r)) (hs : starEach (e :: es) X.env = (false, eval e X.env) :: starEach es X.env := by rfl) : PA X (e :: es) (va c (aC a r)) :=
  pa_of (pa_cons ha hr hs) fun σ H Q ⟨F, ρ, I, ds, ρ', e, q⟩ => by
    unfold aC at e
    split at e
    · rename_i x ρ1 e1
      split at e
      · rename_i xs ρ2 e2
        cases e
        exact ⟨F, ρ, I, x, ρ1, e1, fun v H1 F1 x1 I1 r1 => ⟨F1, ρ1, I1, xs, ρ', e2, fun vs H2 F2 x2 I2 r2 => q _ _ _ (x1.trans x2) I2 (.cons (r1.ext x2) r2)⟩⟩
      · cases e
    · cases e
def sL (g : GL) (a : SA) : SE := fun ρ => match a ρ with
  | some (xs, ρ1) => match g xs with
    | some d => some (d, ρ1)
    | none => none
  | none => none
theorem sL_inv {g : GL} {a : SA} {ρ : Rho} {d : D} {ρ' : Rho} (h : sL g a ρ = some (d, ρ')) : ∃ xs, a ρ = some (xs, ρ') ∧ g xs = some d := by
  unfold sL at h
  split at h
  · split at h
    · cases h; exact ⟨_, by assumption, by assumption⟩
    · cases h
  · cases h
theorem vtL {g : GL} {sa : SA} {σ : L2.St} {H : Hp} {Q : VK} (h : vt c (sL g sa) σ H Q) : va c sa σ H fun xs H1 => rL c.G g xs H1 Q := by
  obtain ⟨F, ρ, I, d, ρ', e, q⟩ := h
  obtain ⟨xs, e1, e2⟩ := sL_inv e
  exact ⟨F, ρ, I, xs, ρ', e1, fun vs H1 F1 x1 I1 r1 => ⟨F1, xs, d, I1.fh, r1, e2, fun v H' F' g r => q v H' F' (x1.trans g.f) (I1.grow g) r⟩⟩
def gTup : GL := fun xs => if xs.length ≤ LN then some (.tup xs) else none
def gLst : GL := fun xs => if xs.length ≤ LN then some (.lst xs) else none
theorem ve_tup {es : List Expr} {k pos} {sa : SA} (h : PA X es (va c sa)) : PE X (.Tuple es k pos) (vt c (sL gTup sa)) :=
  pe_of (pe_tup h) fun σ H Q q => by
    obtain ⟨F, ρ, I, ds, ρ', e, q⟩ := vtL q
    refine ⟨F, ρ, I, ds, ρ', e, fun vs H' F' x I' r => ?_⟩
    obtain ⟨F1, es, d, e1, r1, hg, q1⟩ := q vs H' F' x I' r
    unfold gTup at hg
    split at hg
    · rename_i hz
      cases hg
      exact ⟨by rw [r1.length]; exact ln_fit hz, fun p hp => q1.newT e1 r1 p hp⟩
    · cases hg
theorem ve_lst {es : List Expr} {pos} {sa : SA} (h : PA X es (va c sa)) : PE X (.List es pos) (vt c (sL gLst sa)) :=
  pe_of (pe_lst h) fun σ H Q q => by
    obtain ⟨F, ρ, I, ds, ρ', e, q⟩ := vtL q
    refine ⟨F, ρ, I, ds, ρ', e, fun vs H' F' x I' r => ?_⟩
    obtain ⟨F1, es, d, e1, r1, hg, q1⟩ := q vs H' F' x I' r
    unfold gLst at hg
    split at hg
    · rename_i hz
      cases hg
      exact ⟨by rw [r1.length]; exact ln_fit hz, fun p hp => q1.newL e1 r1 p hp⟩
    · cases hg
theorem ve_callB {id : String} {g : GL} {x : Str} {p pos : Pos} {e : Expr} {es : List Expr} {sa : SA} (hc : CaD c X (.builtin id) g) (hm : X.mg x = none) (hv : bootBuiltins x = some (.builtin id)) (ha : PA X (e :: es) (va c sa)) (hg : Gl X x := by rfl)
    (hn : x ≠ "__name__" := by decide) (hdb : (x == ("__debug__" : Str)) = false := by decide)
    (he : starEach (e :: es) X.env = (false, eval e X.env) :: starEach es X.env := by rfl) (hpl : (backTo pos (starEach es X.env)).any (·.1) = false := by rfl) : PE X (.Call (.Name x p) (e :: es) [] pos) (vt c (sL g sa)) :=
  pe_of (pe_callB hc hg hm hv ha hn hdb he hpl) fun _ _ _ q => vtL q
theorem ve_callT {T : String} {g : GL} {x : Str} {p pos : Pos} {e : Expr} {es : List Expr} {sa : SA} (hc : CaD c X (.type T) g) (hm : X.mg x = none) (hv : bootBuiltins x = some (.type T)) (ha : PA X (e :: es) (va c sa)) (hg : Gl X x := by rfl)
    (hn : x ≠ "__name__" := by decide) (hdb : (x == ("__debug__" : Str)) = false := by decide)
    (he : starEach (e :: es) X.env = (false, eval e X.env) :: starEach es X.env := by rfl) (hpl : (backTo pos (starEach es X.env)).any (·.1) = false := by rfl) : PE X (.Call (.Name x p) (e :: es) [] pos) (vt c (sL g sa)) :=
  pe_of (pe_callTy hc hg hm hv ha hn hdb he hpl) fun _ _ _ q => vtL q
end

def gLen : GL
  | [.str x] => if x.length ≤ LN then some (.int x.length) else none
  | [.lst xs] => some (.int xs.length)
  | [.tup xs] => some (.int xs.length)
  | [.scr xs] => some (.int xs.length)
  | _ => none
def gInt : GL
  | [.int i] => some (.int i)
  | [.bl k] => some (.int (if k then 1 else 0))
  | _ => none
def gAbs : GL
  | [.int i] => some (.int (if i < 0 then -i else i))
  | _ => none
def toIs : List D → Option (List Int)
  | [] => some []
  | .int i :: r => match toIs r with
    | some is => some (i :: is)
    | none => none
  | _ => none
def strs' : List D → Option (List Str)
  | [] => some []
  | .str i :: r => match strs' r with
    | some is => some (i :: is)
    | none => none
  | _ => none
def imax : List Int → Int
  | [] => 0
  | [a] => a
  | a :: r => max a (imax r)
def isort (l : List Int) : List Int := l.mergeSort fun a b => decide (a ≤ b)
def gMax : GL
  | [.int i, .int j] => some (.int (if j > i then j else i))
  | [.lst xs] => match toIs xs with
    | some (i :: r) => some (.int (imax (i :: r)))
    | _ => none
  | _ => none
def gSorted : GL
  | [.lst xs] => match toIs xs with
    | some is => some (.lst ((isort is).map .int))
    | _ => none
  | _ => none
def gList : GL
  | [.lst xs] => some (.lst xs)
  | [.tup xs] => some (.lst xs)
  | _ => none
def gTuple : GL
  | [.lst xs] => some (.tup xs)
  | [.tup xs] => some (.tup xs)
  | _ => none
theorem ints_reps {G : Gx} {F : Hp} : ∀ {vs : List V} {ds : List D} {is : List Int}, Reps G F vs ds → toIs ds = some is → vs = is.map V.int
  | _, _, _, .nil, h => by unfold toIs at h; cases h; rfl
  | _, _, _, .cons h1 r, h => by
    unfold toIs at h
    split at h
    · rename_i hq; exact absurd hq (by simp)
    · split at h
      · rename_i he _ js hj
        cases h; injection he with e1 e2; subst e1 e2; cases h1; rw [ints_reps r hj]; rfl
      · cases h
    · cases h
theorem reps_ints {G : Gx} {F : Hp} : ∀ is : List Int, Reps G F (is.map V.int) (is.map D.int)
  | [] => .nil
  | i :: r => .cons (.int i) (reps_ints r)
theorem imax_mem : ∀ (i : Int) (r : List Int), imax (i :: r) ∈ i :: r
  | i, [] => by simp [imax]
  | i, j :: r => by
    have := imax_mem j r
    unfold imax
    by_cases h : imax (j :: r) ≤ i
    · rw [Int.max_eq_left h]; exact List.mem_cons_self
    · rw [Int.max_eq_right (by omega)]; exact List.mem_cons_of_mem _ this
theorem imax_le : ∀ (i : Int) (r : List Int) (y : Int), y ∈ i :: r → y ≤ imax (i :: r)
  | i, [], y, h => by simp at h; subst h; simp [imax]
  | i, j :: r, y, h => by
    unfold imax
    rcases List.mem_cons.mp h with h | h
    · subst h; exact Int.le_max_left _ _
    · exact Int.le_trans (imax_le j r y h) (Int.le_max_right _ _)
theorem isort_perm (l : List Int) : (isort l).Perm l := List.mergeSort_perm _ _
theorem isort_sorted (l : List Int) : (isort l).Pairwise (· ≤ ·) := by
  have := List.pairwise_mergeSort (le := fun a b : Int => decide (a ≤ b)) (fun a b c h1 h2 => by simp at *; omega) (fun a b => by simp; omega) l
  exact this.imp fun h => by simpa using h
theorem isort_uniq {l k : List Int} (h : k.Perm l) (s : k.Pairwise (· ≤ ·)) : k = isort l :=
  List.Perm.eq_of_pairwise (fun _ _ _ _ h1 h2 => Int.le_antisymm h1 h2) s (isort_sorted l) (h.trans (isort_perm l).symm)
section
variable {c : Ctx} {X : Cx}
theorem ca_len (hK : X.K = c.G.K) : CaD c X (.builtin "len") gLen := car_of call_len fun xs H Q ⟨F, ds, d, e, r, hg, q⟩ => by
  unfold gLen at hg
  split at hg
  · split at hg
    · rename_i h
      cases hg
      cases r with
      | cons r1 r2 => cases r2; cases r1; exact ⟨_, _, rfl, ⟨ln_fit h, rfl⟩, q.here e (.int _)⟩
    · cases hg
  · cases hg
    cases r with
    | cons r1 r2 =>
      cases r2
      cases r1 with
      | lst h1 rs => exact ⟨_, _, rfl, .inl ⟨_, .of (e _ _ h1), rfl⟩, by rw [rs.length]; exact q.here e (.int _)⟩
  · cases hg
    cases r with
    | cons r1 r2 =>
      cases r2
      cases r1 with
      | tup h1 rs => exact ⟨_, _, rfl, .inr ⟨_, .of (e _ _ h1), rfl⟩, by rw [rs.length]; exact q.here e (.int _)⟩
  · cases hg
    cases r with
    | cons r1 r2 =>
      cases r2
      cases r1 with
      | scr h1 rs => exact ⟨_, _, rfl, .inl ⟨_, hK ▸ h1.ext e, rfl⟩, by rw [rs.length]; exact q.here e (.int _)⟩
  · cases hg
theorem ca_int : CaD c X (.type "int") gInt := car_of call_int1 fun xs H Q ⟨F, ds, d, e, r, hg, q⟩ => by
  unfold gInt at hg
  split at hg
  · cases hg
    cases r with
    | cons r1 r2 => cases r2; cases r1; exact .inl ⟨_, rfl, q.here e (.int _)⟩
  · cases hg
    cases r with
    | cons r1 r2 => cases r2; cases r1; exact .inr ⟨_, rfl, q.here e (.int _)⟩
  · cases hg
theorem ca_abs : CaD c X (.builtin "abs") gAbs := car_of call_abs fun xs H Q ⟨F, ds, d, e, r, hg, q⟩ => by
  unfold gAbs at hg
  split at hg
  · cases hg
    cases r with
    | cons r1 r2 => cases r2; cases r1; exact ⟨_, rfl, q.here e (.int _)⟩
  · cases hg
theorem lst1 {F H : Hp} {xs : List V} {ds : List D} (e : Ext F H) (r : Reps c.G F xs [.lst ds]) : ∃ a vs, xs = [.ref a] ∧ H a = some (.lst vs) ∧ Reps c.G F vs ds := by
  cases r with
  | cons r1 r2 =>
    cases r2
    cases r1 with
    | lst h1 rs => exact ⟨_, _, rfl, e _ _ h1, rs⟩
theorem tup1 {F H : Hp} {xs : List V} {ds : List D} (e : Ext F H) (r : Reps c.G F xs [.tup ds]) : ∃ a vs, xs = [.ref a] ∧ F a = some (.tup vs) ∧ H a = some (.tup vs) ∧ Reps c.G F vs ds := by
  cases r with
  | cons r1 r2 =>
    cases r2
    cases r1 with
    | tup h1 rs => exact ⟨_, _, rfl, h1, e _ _ h1, rs⟩
theorem ca_max (hc : X.calm = true) : CaD c X (.builtin "max") gMax := car_of ((call_max2 hc).or (cr_max hc)) fun xs H Q ⟨F, ds, d, e, r, hg, q⟩ => by
  unfold gMax at hg
  split at hg
  · cases hg
    cases r with
    | cons r1 r2 =>
      cases r2 with
      | cons r2 r3 => cases r3; cases r1; cases r2; exact .inl ⟨_, _, rfl, q.here e (.int _)⟩
  · split at hg
    · rename_i i r' hi
      cases hg
      obtain ⟨a, vs, h1, h2, rs⟩ := lst1 e r
      refine .inr ⟨a, _, h1, .of (ints_reps rs hi ▸ h2), by simp, fun m m1 m2 => ?_⟩
      have : m = imax (i :: r') := Int.le_antisymm (imax_le _ _ _ m1) (m2 _ (imax_mem _ _))
      subst this
      exact q.here e (.int _)
    · cases hg
  · cases hg
theorem ca_sorted : CaD c X (.builtin "sorted") gSorted := car_of cr_sortedI fun xs H Q ⟨F, ds, d, e, r, hg, q⟩ => by
  unfold gSorted at hg
  split at hg
  · split at hg
    · rename_i is hi
      cases hg
      obtain ⟨a, vs, h1, h2, rs⟩ := lst1 e r
      refine ⟨a, _, h1, .of (ints_reps rs hi ▸ h2), fun ns' p hp hs hn => ?_⟩
      have := isort_uniq hp hs
      subst this
      exact q.newL e (reps_ints _) p hn
    · cases hg
  · cases hg
theorem ca_list : CaD c X (.type "list") gList := car_of call_list_of fun xs H Q ⟨F, ds, d, e, r, hg, q⟩ => by
  unfold gList at hg
  split at hg
  · cases hg
    obtain ⟨a, vs, h1, h2, rs⟩ := lst1 e r
    exact ⟨a, _, h1, .inl (.of h2), fun p hp => q.newL e rs p hp⟩
  · cases hg
    obtain ⟨a, vs, h1, _, h2, rs⟩ := tup1 e r
    exact ⟨a, _, h1, .inr (.of h2), fun p hp => q.newL e rs p hp⟩
  · cases hg
theorem ca_tuple : CaD c X (.type "tuple") gTuple := car_of call_tuple_of fun xs H Q ⟨F, ds, d, e, r, hg, q⟩ => by
  unfold gTuple at hg
  split at hg
  · cases hg
    obtain ⟨a, vs, h1, h2, rs⟩ := lst1 e r
    exact ⟨a, _, h1, .inl ⟨.of h2, fun p hp => q.newT e rs p hp⟩⟩
  · cases hg
    obtain ⟨a, vs, h1, h0, h2, rs⟩ := tup1 e r
    exact ⟨a, _, h1, .inr ⟨.of h2, q.here e (.tup h0 rs)⟩⟩
  · cases hg
end

def gIx : G2
  | .lst xs, .int k => atI xs k
  | .tup xs, .int k => atI xs k
  | .scr xs, .int k => atI xs k
  | .str z, .int k => if z.length ≤ LN then (atI z.cps.toList k).map fun n => .str ⟨#[n]⟩ else none
  | _, _ => none
theorem Reps.atI {G : Gx} {F : Hp} {vs : List V} {ds : List D} {k : Int} {d : D} (r : Reps G F vs ds) (h : L2.atI ds k = some d) : ∃ v, L2.atI vs k = some v ∧ Rep G F v d := by
  unfold L2.atI at h ⊢
  rw [r.length]
  cases e : ixN ds.length k with
  | none => rw [e] at h; cases h
  | some j => rw [e] at h; exact r.get (i := j) h
section
variable {c : Ctx} {X : Cx}
theorem ix_ok (hK : X.K = c.G.K) : IxR X (rD c.G gIx) := by
  intro value slice pins s σ H x y v u Q I rx ry h hs
  refine ix_seq value slice pins s σ H x y v u Q I rx ry ?_ hs
  obtain ⟨F, a, b, d, e, ra, rb, hg, q⟩ := h
  unfold gIx at hg
  split at hg
  · cases ra with
    | lst h1 rs =>
      cases rb
      obtain ⟨v, h2, h3⟩ := rs.atI hg
      exact .inl ⟨_, _, _, _, rfl, rfl, .of (e _ _ h1), h2, q.here e h3⟩
  · cases ra with
    | tup h1 rs =>
      cases rb
      obtain ⟨v, h2, h3⟩ := rs.atI hg
      exact .inr (.inl ⟨_, _, _, _, rfl, rfl, .of (e _ _ h1), h2, q.here e h3⟩)
  · cases ra with
    | scr h1 rs =>
      cases rb
      obtain ⟨v, h2, h3⟩ := rs.atI hg
      exact .inl ⟨_, _, _, _, rfl, rfl, hK ▸ h1.ext e, h2, q.here e h3⟩
  · split at hg
    · rename_i z k hz
      cases ra; cases rb
      cases h2 : L2.atI z.cps.toList k with
      | none => rw [h2] at hg; cases hg
      | some n =>
        rw [h2] at hg
        cases hg
        exact .inr (.inr ⟨_, _, _, rfl, rfl, ln_fit hz, h2, q.here e (.str _)⟩)
    · cases hg
  · cases hg
theorem ve_ix {a b : Expr} {sa sb : SE} {pos} (hK : X.K = c.G.K) (ha : PE X a (vt c sa)) (hb : PE X b (vt c sb)) (hs : PlainIx b := by exact fun _ _ => rfl) : PE X (.Subscript a b pos) (vt c (s2 gIx sa sb)) :=
  pe_of (pe_ix (ix_ok hK) ha hb hs) fun _ _ _ h => vt2 h
def conM (ρ : Rho) (i : Nat) : Option (List D) := match ρ[i]? with
  | some (.own xs) => some xs
  | some (.bor xs) => some xs
  | _ => none
theorem Ok.own {F H : Hp} {σ : L2.St} {ρ : Rho} (I : Ok c F H σ ρ) {i : Nat} {xs : List D} (h : conM ρ i = some xs) :
    ∃ p vs, σ[i]? = some (some (V.ref p)) ∧ H p = some (.lst vs) ∧ F p = none ∧ Reps c.G F vs xs := by
  unfold conM at h
  split at h
  · rename_i ys hy
    cases h
    obtain ⟨ov, h1, h2⟩ := I.sl i _ hy
    cases ov with
    | none => exact h2.elim
    | some v =>
      obtain ⟨p, e, _, hf, vs, hh, r⟩ := h2
      subst e
      exact ⟨p, vs, h1, hh, hf, r⟩
  · rename_i ys hy
    cases h
    obtain ⟨ov, h1, h2⟩ := I.sl i _ hy
    cases ov with
    | none => exact h2.elim
    | some v =>
      obtain ⟨p, e, _, hf, vs, hh, r⟩ := h2
      subst e
      exact ⟨p, vs, h1, hh, hf, r⟩
  · cases h
def sIxM (i : Nat) (b : SE) : SE := fun ρ => match conM ρ i with
  | none => none
  | some _ => match b ρ with
    | some (.int k, ρ1) => match conM ρ1 i with
      | some xs => match L2.atI xs k with
        | some d => some (d, ρ1)
        | none => none
      | none => none
    | _ => none
theorem ve_ixM {a b : Expr} {i : Nat} {sb : SE} {pos} (ha : PE X a (tVar i)) (hb : PE X b (vt c sb)) (hs : PlainIx b := by exact fun _ _ => rfl) : PE X (.Subscript a b pos) (vt c (sIxM i sb)) := by
  refine pe_of (pe_ix ix_list ha hb hs) fun σ H Q ⟨F, ρ, I, d, ρ', e, q⟩ => ?_
  unfold sIxM at e
  split at e
  · cases e
  · rename_i xs0 e0
    obtain ⟨p, vs0, h0, _⟩ := I.own e0
    split at e
    · rename_i k ρ1 e1
      split at e
      · rename_i xs e2
        split at e
        · rename_i d' e3
          cases e
          refine ⟨_, h0, F, ρ, I, _, ρ', e1, fun w H1 F1 x1 I1 r1 => ?_⟩
          obtain ⟨p', vs, h1, h2, h3, h4⟩ := I1.own e2
          rw [h0] at h1
          cases h1
          cases r1
          obtain ⟨u, g1, g2⟩ := h4.atI e3
          exact ⟨_, vs, k, u, rfl, rfl, .of h2, g1, q u H1 F1 x1 I1 g2⟩
        · cases e
      · cases e
    · cases e
end
end VS

set_option Elab.async false
set_option linter.all false
set_option maxRecDepth 100000
set_option maxHeartbeats 4000000
namespace VS
open PySem PySem.Spec PyProof.Rows L2

abbrev SO := Rho → Option (Option Int × Rho)
def vo (c : Ctx) (s : SO) : TO := fun σ H Q => ∃ F ρ, Ok c F H σ ρ ∧ ∃ o ρ', s ρ = some (o, ρ') ∧ ∀ H' F', Ext F F' → Ok c F' H' σ ρ' → Q o H'
def oN : SO := fun ρ => some (none, ρ)
def oS (a : SE) : SO := fun ρ => match a ρ with
  | some (.int i, ρ') => some (some i, ρ')
  | _ => none
def cutD (xs : List D) (lo hi : Option Int) : List D := (xs.drop (HT.sIx xs.length 0 lo)).take (HT.sIx xs.length xs.length hi - HT.sIx xs.length 0 lo)
def gSl : D → Option Int → Option Int → Option D
  | .lst xs, lo, hi => some (.lst (cutD xs lo hi))
  | .tup xs, lo, hi => some (.tup (cutD xs lo hi))
  | _, _, _ => none
def sSl (a : SE) (lo hi : SO) : SE := fun ρ => match a ρ with
  | some (x, ρ1) => match lo ρ1 with
    | some (l, ρ2) => match hi ρ2 with
      | some (h, ρ3) => match gSl x l h with
        | some d => some (d, ρ3)
        | none => none
      | none => none
    | none => none
  | none => none
section
variable {c : Ctx} {X : Cx}
theorem vo_none : PO X none (vo c oN) := ⟨fun pins s σ H Q I ⟨F, ρ, I', o, ρ', e, q⟩ => by
  cases e
  exact po_none.run pins s σ H Q I (q H F Ext.rfl' I')⟩
theorem vo_some {e : Expr} {a : SE} (h : PE X e (vt c a)) : PO X (some e) (vo c (oS a)) := ⟨fun pins s σ H Q I ⟨F, ρ, I', o, ρ', e, q⟩ => by
  refine (po_some h).run pins s σ H Q I ?_
  unfold oS at e
  split at e
  · rename_i i ρ1 e1
    cases e
    exact ⟨F, ρ, I', _, ρ', e1, fun v H' F' x I1 r => by cases r; exact ⟨_, rfl, q H' F' x I1⟩⟩
  · cases e⟩
theorem Reps.cut {G : Gx} {F : Hp} {vs : List V} {ds : List D} (r : Reps G F vs ds) (lo hi : Option Int) : Reps G F (cutV vs lo hi) (cutD ds lo hi) := by
  unfold cutV cutD
  rw [r.length]
  exact (r.drop _).take _
theorem cut_whole {vs : List V} {lo hi : Option Int} (h1 : HT.sIx vs.length 0 lo = 0) (h2 : HT.sIx vs.length vs.length hi = vs.length) : cutV vs lo hi = vs := by
  unfold cutV
  rw [h1, h2]
  simp
theorem ve_slice {a : Expr} {lo hi : Option Expr} {sa : SE} {sl sh : SO} {p2 pos} (ha : PE X a (vt c sa)) (hl : PO X lo (vo c sl)) (hh : PO X hi (vo c sh)) : PE X (.Subscript a (.Slice lo hi none p2) pos) (vt c (sSl sa sl sh)) := by
  refine pe_of (pe_slice (sl_list.or sl_tupA) ha hl hh) fun σ H Q ⟨F, ρ, I, d, ρ', e, q⟩ => ?_
  unfold sSl at e
  split at e
  · rename_i x ρ1 e1
    split at e
    · rename_i l ρ2 e2
      split at e
      · rename_i h ρ3 e3
        split at e
        · rename_i d' e4
          cases e
          refine ⟨F, ρ, I, x, ρ1, e1, fun v H1 F1 x1 I1 r1 => ⟨F1, ρ1, I1, l, ρ2, e2, fun H2 F2 x2 I2 => ⟨F2, ρ2, I2, h, ρ', e3, fun H3 F3 x3 I3 => ?_⟩⟩⟩
          have r1' := (r1.ext x2).ext x3
          have q' : Aft c.G F3 H3 d Q := fun v H' F' g r => q v H' F' (((x1.trans x2).trans x3).trans g.f) (I3.grow g) r
          unfold gSl at e4
          split at e4
          · cases e4
            cases r1' with
            | lst h1 rs => exact .inl ⟨_, _, rfl, .of (I3.fh _ _ h1), fun p hp => q'.newL I3.fh (rs.cut _ _) p hp⟩
          · cases e4
            cases r1' with
            | tup h1 rs =>
              refine .inr ⟨_, _, rfl, .of (I3.fh _ _ h1), fun ⟨w1, w2⟩ => ?_, fun _ p hp => q'.newT I3.fh (rs.cut _ _) p hp⟩
              have rc := rs.cut l h
              rw [cut_whole w1 w2] at rc
              exact q'.here I3.fh (.tup h1 rc)
          · cases e4
        · cases e
      · cases e
    · cases e
  · cases e
end

def look (f : Str) : List Str → Option Nat
  | [] => none
  | g :: r => if f = g then some 0 else (look f r).map (· + 1)
theorem lookup_of {f : Str} : ∀ {fs : List (Str × V)} {j : Nat}, look f (fs.map (·.1)) = some j → fs.lookup f = (fs.map (·.2))[j]?
  | [], j, h => by simp [look] at h
  | (g, v) :: r, j, h => by
    simp only [List.map_cons, look] at h
    by_cases e : f = g
    · rw [if_pos e] at h; cases h
      have hb : (f == g) = true := beq_iff_eq.mpr e
      simp [List.lookup, hb]
    · rw [if_neg e] at h
      have hb : (f == g) = false := beq_eq_false_iff_ne.mpr e
      cases h2 : look f (r.map (·.1)) with
      | none => rw [h2] at h; cases h
      | some i =>
        rw [h2] at h; cases h
        have := lookup_of h2
        simp only [List.lookup, hb, List.map_cons, List.getElem?_cons_succ]
        exact this
def gFld (k j : Nat) : G1
  | .ins k' ds => if k' = k then ds[j]? else none
  | _ => none
section
variable {c : Ctx} {X : Cx}
theorem ve_fld {e : Expr} {f : Str} {pos : Pos} {s : SE} (k j : Nat) (he : PE X e (vt c s)) (cl : Cls X.K (c.G.cls k)) (n : NoAttr X.K (c.G.cls k) f) (hj : look f (c.G.fld k) = some j) (hb : attributeBase e f X.env (eval e X.env) = eval e X.env := by rfl) :
    PE X (.Attribute e f pos) (vt c (s1 (gFld k j) s)) := by
  refine pe_of (pe_fld he hb) fun σ H Q ⟨F, ρ, I, d, ρ', e, q⟩ => ?_
  obtain ⟨x, e1, e2⟩ := s1_inv e
  unfold gFld at e2
  split at e2
  · rename_i k' ds
    split at e2
    · rename_i hk
      subst hk
      refine ⟨F, ρ, I, _, ρ', e1, fun v H1 F1 x1 I1 r1 => ?_⟩
      cases r1 with
      | ins h1 hn rs =>
        obtain ⟨u, g1, g2⟩ := rs.get e2
        refine ⟨_, _, _, _, u, rfl, I1.fh _ _ h1, cl, n, ?_, q u H1 F1 x1 I1 g2⟩
        rw [lookup_of (j := j) (by rw [hn]; exact hj)]
        exact g1
    · cases e2
  · cases e2
end

abbrev Mir := List Sl → Option (D × List D)
inductive ArgOk (G : Gx) (F H : Hp) : List Addr → List V → List Sl → Prop
  | vals {vs : List V} {ds : List D} : Reps G F vs ds → ArgOk G F H [] vs (ds.map .val)
  | bor {p : Addr} {vs us : List V} {xs ds : List D} : F p = none → H p = some (.lst us) → Reps G F us xs → Reps G F vs ds → ArgOk G F H [p] (.ref p :: vs) (.bor xs :: ds.map .val)
  | slf {p dx : Addr} {k : Nat} {vs : List V} {ds : List D} : F p = none → H p = some (.ins (G.cls k) dx []) → Reps G F vs ds → ArgOk G F H [p] (.ref p :: vs) (.slf k [] :: ds.map .val)
  | lam {v : V} {d : D} {f : Addr} {h : D → D → Option D} : Rep G F v d → LamAt G F H f h → ArgOk G F H [] [v, .ref f] [.val d, .lam h]
def Out (G : Gx) (F H : Hp) (B : List Addr) (sl : List Sl) (out : List D) : Prop := ∀ p ∈ B, F p = none ∧ match sl with
  | .bor _ :: _ => ∃ us, H p = some (.lst us) ∧ Reps G F us out
  | .slf k _ :: _ => ∃ dx fs, H p = some (.ins (G.cls k) dx fs) ∧ (∃ n, fs.map (·.1) = (G.fld k).take n) ∧ Reps G F (fs.map (·.2)) out
  | _ => False
theorem nt_lst {xs : List V} : ∀ ps, HO.lst xs ≠ .tbl ps := fun ps z => by cases z
theorem nt_ins {a b : Addr} {fs : List (Str × V)} : ∀ ps, HO.ins a b fs ≠ .tbl ps := fun ps z => by cases z
theorem nt_raw {w : World} {p : Addr} {xs : List DEnt} : ∀ ps, rawO w p xs ≠ .tbl ps := fun ps z => by unfold rawO at z; cases z
theorem nt_dK {kvs : List (Key × V)} : ∀ ps, HO.dK kvs ≠ .tbl ps := fun ps z => by cases z
theorem DicAt.keep {w : World} {b : Bool} {F F' H H' : Hp} {p : Addr} {ks : List NestedKey} {vs : List V} (e : Ext F F') (h : ∀ o, H p = some o → (∀ ps, o ≠ .tbl ps) → H' p = some o) (d : DicAt w b none F H p ks vs) : DicAt w b none F' H' p ks vs := by
  cases b with
  | true => obtain ⟨xs, d⟩ := d; exact ⟨xs, d.ext e fun z => h _ z nt_raw⟩
  | false => obtain ⟨kvs, d, r⟩ := d; exact ⟨kvs, h _ d nt_dK, r⟩
def spV (G : Gx) (n : Nat) (m : Mir) : Sp := fun vs H Q _ => ∃ F B sl, Ext F H ∧ TbOk G.T F H ∧ ArgOk G F H B vs sl ∧ sl.length = n ∧ ∃ d out, m sl = some (d, out) ∧
  ∀ v H' F', Keep G.T B F H F' H' → Out G F' H' B sl out → Rep G F' v d → Q v H'
structure Cal (P : Program) (w : World) (G : Gx) (mg : Str → Option Value) (base : Heap) (x : Str) (k n : Nat) (m : Mir) : Prop where
  ex : ∃ (f : Addr) (fd : FuncData) (ps : List Str), mg x = some (.ref f) ∧ PySem.W.keepIn G.K (.ref f) = true ∧ Binds G.K fd ps [] ∧ FnOk P w G.K mg base CX0 k f fd ps (spV G n m)
def sCall (n : Nat) (m : Mir) (a : SA) : SE := fun ρ => match a ρ with
  | some (xs, ρ1) => if xs.length = n then match m (xs.map .val) with
    | some (d, _) => some (d, ρ1)
    | none => none
    else none
  | none => none
def setM (ρ : Rho) (i : Nat) (xs : List D) : Rho := match ρ[i]? with
  | some (.own _) => ρ.set i (.own xs)
  | some (.bor _) => ρ.set i (.bor xs)
  | _ => ρ
def sCallM (n : Nat) (m : Mir) (i : Nat) (a : SA) : SE := fun ρ => match conM ρ i with
  | none => none
  | some _ => match a ρ with
    | some (xs, ρ1) => if xs.length + 1 = n then match conM ρ1 i with
      | some ys => match m (.bor ys :: xs.map .val) with
        | some (d, out) => some (d, setM ρ1 i out)
        | none => none
      | none => none
      else none
    | none => none
theorem ArgOk.length {G : Gx} {F H : Hp} {B : List Addr} {vs : List V} {sl : List Sl} (a : ArgOk G F H B vs sl) : vs.length = sl.length := by
  cases a with
  | vals r => simp [r.length]
  | bor _ _ _ r => simp [r.length]
  | slf _ _ r => simp [r.length]
  | lam _ _ => rfl
theorem Ok.kept {c : Ctx} {F H F' H' : Hp} {σ : L2.St} {ρ : Rho} {B : List Addr} (I : Ok c F H σ ρ) (k : Keep c.G.T B F H F' H') (hB : ∀ q ∈ B, c.H0 q = none) (hL : ∀ q ∈ B, ∀ o, H q = some o → ¬ LamL o) (ap : ∀ (j : Nat) (s : Sl) (q : Addr), ρ[j]? = some s → s.mut = true → σ[j]? = some (some (V.ref q)) → q ∉ B) : Ok c F' H' σ ρ := by
  refine ⟨I.len, I.f0.trans k.f, k.fh, fun q o h1 h2 h3 => k.h q o (I.fr q o h1 h2 h3) (fun z => by rw [hB q z] at h1; cases h1) h3, fun q o h1 => ?_, fun q o h1 h2 => ?_, fun i s hs => ?_, I.ap, I.hb, k.t I.tb⟩
  · obtain ⟨o', e⟩ := I.al q o h1
    exact k.a q o' e
  · obtain ⟨o', e⟩ := I.al q o h1
    exact k.n q o' e (I.n0 q o h1 h2)
  · obtain ⟨ov, h1, h2⟩ := I.sl i s hs
    refine ⟨ov, h1, ?_⟩
    cases s with
    | no => cases ov <;> trivial
    | val d =>
      cases ov with
      | none => exact h2
      | some v => exact Rep.ext k.f h2
    | lam g0 =>
      cases ov with
      | none => exact h2
      | some v => exact (let ⟨f1, z1, z2⟩ := h2; ⟨f1, z1, z2.move k.f fun q0 u0 e1 e2 => ⟨k.h q0 u0 e1 (fun z => hL q0 z u0 e1 e2) e2.nt, fun e3 => k.n q0 u0 e1 e3⟩⟩)
    | own xs =>
      cases ov with
      | none => exact h2
      | some v =>
        obtain ⟨q, e, a1, a2, vs, a3, a4⟩ := h2
        exact ⟨q, e, a1, k.n q _ a3 a2, vs, k.h q _ a3 (ap i _ q hs rfl (by rw [h1, e])) nt_lst, a4.ext k.f⟩
    | bor xs =>
      cases ov with
      | none => exact h2
      | some v =>
        obtain ⟨q, e, a1, a2, vs, a3, a4⟩ := h2
        exact ⟨q, e, a1, k.n q _ a3 a2, vs, k.h q _ a3 (ap i _ q hs rfl (by rw [h1, e])) nt_lst, a4.ext k.f⟩
    | slf z xs =>
      cases ov with
      | none => exact h2
      | some v =>
        obtain ⟨q, e, a1, a2, dx, fs, a3, a4, a5⟩ := h2
        exact ⟨q, e, a1, k.n q _ a3 a2, dx, fs, k.h q _ a3 (ap i _ q hs rfl (by rw [h1, e])) nt_ins, a4, a5.ext k.f⟩
    | dic b ks xs =>
      cases ov with
      | none => exact h2
      | some v =>
        obtain ⟨q, e, a1, a2, vs, a3, a4⟩ := h2
        obtain ⟨o, e3⟩ := DicAt.ob a3
        exact ⟨q, e, a1, k.n q _ e3 a2, vs, DicAt.keep k.f (fun o' z nt => k.h q _ z (ap i _ q hs rfl (by rw [h1, e])) nt) a3, a4.ext k.f⟩
theorem keep_lift {c : Ctx} {F H F' H' : Hp} {σ : L2.St} {ρ : Rho} (I : Ok c F H σ ρ) (k : Keep c.G.T [] F H F' H') : Ok c F' H' σ ρ := I.kept k (fun q h => absurd h (by simp)) (fun q h => absurd h (by simp)) fun j s q _ _ _ => by simp
theorem out_nil {G : Gx} {F H : Hp} {sl : List Sl} {out : List D} : Out G F H [] sl out := fun p h => absurd h (by simp)
theorem Ok.lent {c : Ctx} {F H F' H' : Hp} {σ : L2.St} {ρ : Rho} {i : Nat} {xs ys : List D} {p : Addr} {us : List V} (I : Ok c F H σ ρ) (hx : conM ρ i = some xs) (hσ : σ[i]? = some (some (V.ref p)))
    (k : Keep c.G.T [p] F H F' H') (hf : F' p = none) (hh : H' p = some (.lst us)) (r : Reps c.G F' us ys) : Ok c F' H' σ (setM ρ i ys) := by
  have hi : i < ρ.length := by
    unfold conM at hx
    cases e : ρ[i]? with
    | none => rw [e] at hx; cases hx
    | some s => exact (List.getElem?_eq_some_iff.mp e).1
  have hL : ∀ q ∈ [p], ∀ o, H q = some o → ¬ LamL o := fun q hq o e => by
    obtain ⟨p', us', g1, g2, _⟩ := I.own hx
    rw [hσ] at g1; cases g1
    rw [List.mem_singleton.mp hq, g2] at e
    cases e
    exact nl_lst
  have sm : ∃ s0 s1, ρ[i]? = some s0 ∧ s0.mut = true ∧ s1.mut = true ∧ setM ρ i ys = ρ.set i s1 ∧ (∀ ov, SlOk c F H ov s0 → SlOk c F' H' (some (V.ref p)) s1 ∨ ov ≠ some (V.ref p)) ∧ (p ∈ c.B ∨ c.H0 p = none) := by
    unfold conM at hx
    split at hx
    · rename_i zs hz
      obtain ⟨ov, h1, h2⟩ := I.sl i _ hz
      rw [hσ] at h1; cases h1
      obtain ⟨p', e, h0, _⟩ := h2
      cases e
      exact ⟨_, .own ys, hz, rfl, rfl, by unfold setM; rw [hz], fun ov h => .inl ⟨p, rfl, h0, hf, us, hh, r⟩, .inr h0⟩
    · rename_i zs hz
      obtain ⟨ov, h1, h2⟩ := I.sl i _ hz
      rw [hσ] at h1; cases h1
      obtain ⟨p', e, h0, _⟩ := h2
      cases e
      exact ⟨_, .bor ys, hz, rfl, rfl, by unfold setM; rw [hz], fun ov h => .inl ⟨p, rfl, h0, hf, us, hh, r⟩, .inl h0⟩
    · cases hx
  obtain ⟨s0, s1, g1, g2, g3, g4, g5, g6⟩ := sm
  rw [g4]
  refine ⟨by rw [List.length_set]; exact I.len, I.f0.trans k.f, k.fh, fun q o h1 h2 h3 => ?_, fun q o h1 => ?_, fun q o h1 h2 => ?_, fun j s hs => ?_, fun a b s t pa qb ha hb ms mt => ?_, I.hb, k.t I.tb⟩
  · refine k.h q o (I.fr q o h1 h2 h3) (fun z => ?_) h3
    have z : q = p := by simpa using z
    subst z
    rcases g6 with g6 | g6
    · exact h2 g6
    · rw [g6] at h1; cases h1
  · obtain ⟨o', e⟩ := I.al q o h1
    exact k.a q o' e
  · obtain ⟨o', e⟩ := I.al q o h1
    exact k.n q o' e (I.n0 q o h1 h2)
  · by_cases hj : i = j
    · subst hj
      rw [List.getElem?_set_self hi] at hs
      cases hs
      obtain ⟨ov, h1, h2⟩ := I.sl i _ g1
      rw [hσ] at h1; cases h1
      rcases g5 _ h2 with z | z
      · exact ⟨_, hσ, z⟩
      · exact absurd rfl z
    · rw [List.getElem?_set_ne hj] at hs
      obtain ⟨ov, h1, h2⟩ := I.sl j s hs
      refine ⟨ov, h1, ?_⟩
      have ne : ∀ q, s.mut = true → ov = some (V.ref q) → q ∉ [p] := fun q hm e z => by
        have z : q = p := by simpa using z
        exact hj (I.ap i j _ _ p q g1 hs g2 hm hσ (by rw [h1, e]) z.symm)
      cases s with
      | no => cases ov <;> trivial
      | val d =>
        cases ov with
        | none => exact h2
        | some v => exact Rep.ext k.f h2
      | lam g0 =>
        cases ov with
        | none => exact h2
        | some v => exact (let ⟨f1, z1, z2⟩ := h2; ⟨f1, z1, z2.move k.f fun q0 u0 e1 e2 => ⟨k.h q0 u0 e1 (fun z => hL q0 z u0 e1 e2) e2.nt, fun e3 => k.n q0 u0 e1 e3⟩⟩)
      | own zs =>
        cases ov with
        | none => exact h2
        | some v =>
          obtain ⟨q, e, a1, a2, ws, a3, a4⟩ := h2
          exact ⟨q, e, a1, k.n q _ a3 a2, ws, k.h q _ a3 (ne q rfl (by rw [e])) nt_lst, a4.ext k.f⟩
      | bor zs =>
        cases ov with
        | none => exact h2
        | some v =>
          obtain ⟨q, e, a1, a2, ws, a3, a4⟩ := h2
          exact ⟨q, e, a1, k.n q _ a3 a2, ws, k.h q _ a3 (ne q rfl (by rw [e])) nt_lst, a4.ext k.f⟩
      | slf z zs =>
        cases ov with
        | none => exact h2
        | some v =>
          obtain ⟨q, e, a1, a2, dx, fs, a3, a4, a5⟩ := h2
          exact ⟨q, e, a1, k.n q _ a3 a2, dx, fs, k.h q _ a3 (ne q rfl (by rw [e])) nt_ins, a4, a5.ext k.f⟩
      | dic bb ks zs =>
        cases ov with
        | none => exact h2
        | some v =>
          obtain ⟨q, e, a1, a2, ws, a3, a4⟩ := h2
          obtain ⟨o, e3⟩ := DicAt.ob a3
          exact ⟨q, e, a1, k.n q _ e3 a2, ws, DicAt.keep k.f (fun o' z nt => k.h q _ z (ne q rfl (by rw [e])) nt) a3, a4.ext k.f⟩
  · have mu : ∀ (j : Nat) s, (ρ.set i s1)[j]? = some s → s.mut = true → ∃ s', ρ[j]? = some s' ∧ s'.mut = true := fun j s hs hm => by
      by_cases hj : i = j
      · subst hj; exact ⟨s0, g1, g2⟩
      · rw [List.getElem?_set_ne hj] at hs; exact ⟨s, hs, hm⟩
    obtain ⟨s', hs', ms'⟩ := mu a s ha ms
    obtain ⟨t', ht', mt'⟩ := mu b t hb mt
    exact I.ap a b s' t' pa qb hs' ht' ms' mt'
section
variable {c : Ctx} {X : Cx} {x : Str} {p pos : Pos} {e : Expr} {es : List Expr} {k n : Nat} {m : Mir}
theorem call_w {sa : SA} (σ : L2.St) (H : Hp) (Q : VK) (h : vt c (sCall n m sa) σ H Q) : tCall (spV c.G n m) [] E0 (va c sa) σ H Q := by
  obtain ⟨F, ρ, I, d, ρ', e, q⟩ := h
  unfold sCall at e
  split at e
  · rename_i xs ρ1 e1
    split at e
    · rename_i hn
      split at e
      · rename_i d' out e2
        cases e
        refine ⟨F, ρ, I, xs, ρ', e1, fun vs H1 F1 x1 I1 r1 => ?_⟩
        show spV c.G n m (vs ++ []) H1 Q E0
        rw [List.append_nil]
        exact ⟨F1, [], _, I1.fh, I1.tb, ArgOk.vals r1, by rw [List.length_map]; exact hn, d, out, e2, fun v H2 F2 k2 _ r2 => q v H2 F2 (x1.trans k2.f) (keep_lift I1 k2) r2⟩
      · cases e
    · cases e
  · cases e
theorem ve_call {sa : SA} (C : Cal X.prog X.w c.G X.mg X.base x k n m) (hK : X.K = c.G.K) (hr : Room k X.A) (ha : PA X (e :: es) (va c sa)) (hg : Gl X x := by rfl) (hdb : (x == ("__debug__" : Str)) = false := by decide)
    (he : starEach (e :: es) X.env = (false, eval e X.env) :: starEach es X.env := by rfl) (hpl : (backTo pos (starEach es X.env)).any (·.1) = false := by rfl) : PE X (.Call (.Name x p) (e :: es) [] pos) (vt c (sCall n m sa)) := by
  obtain ⟨f, fd, ps, hm, hk, hb, hF⟩ := C.ex
  rw [← hK] at hk hb hF
  exact pe_of (pe_call hF hr hg hm hk hb .nil pass0 ha hdb he hpl) call_w
theorem callM_w {sa : SA} {i : Nat} (σ : L2.St) (H : Hp) (Q : VK) (h : vt c (sCallM n m i sa) σ H Q) : tCall (spV c.G n m) [] E0 (tCons (tVar i) (va c sa)) σ H Q := by
  obtain ⟨F, ρ, I, d, ρ', e, q⟩ := h
  unfold sCallM at e
  split at e
  · cases e
  · rename_i ys0 e0
    obtain ⟨p, us0, h0, _⟩ := I.own e0
    split at e
    · rename_i xs ρ1 e1
      split at e
      · rename_i hn
        split at e
        · rename_i ys e3
          split at e
          · rename_i d' out e2
            cases e
            refine ⟨_, h0, F, ρ, I, xs, ρ1, e1, fun vs H1 F1 x1 I1 r1 => ?_⟩
            show spV c.G n m ((V.ref p :: vs) ++ []) H1 Q E0
            rw [List.append_nil]
            obtain ⟨p', us, h1, h2, h3, h4⟩ := I1.own e3
            rw [h0] at h1; cases h1
            refine ⟨F1, [p], _, I1.fh, I1.tb, .bor h3 h2 h4 r1, by simpa using hn, d, out, e2, fun v H2 F2 k2 o2 r2 => ?_⟩
            obtain ⟨z1, us2, z2, z3⟩ := o2 p (by simp)
            exact q v H2 F2 (x1.trans k2.f) (I1.lent e3 h0 k2 z1 z2 z3) r2
          · cases e
        · cases e
      · cases e
    · cases e
theorem ve_callM {sa : SA} {i : Nat} (C : Cal X.prog X.w c.G X.mg X.base x k n m) (hK : X.K = c.G.K) (hr : Room k X.A) (h1 : PE X e (tVar i)) (ha : PA X es (va c sa)) (hg : Gl X x := by rfl) (hdb : (x == ("__debug__" : Str)) = false := by decide)
    (he : starEach (e :: es) X.env = (false, eval e X.env) :: starEach es X.env := by rfl) (hpl : (backTo pos (starEach es X.env)).any (·.1) = false := by rfl) : PE X (.Call (.Name x p) (e :: es) [] pos) (vt c (sCallM n m i sa)) := by
  obtain ⟨f, fd, ps, hm, hk, hb, hF⟩ := C.ex
  rw [← hK] at hk hb hF
  exact pe_of (pe_call hF hr hg hm hk hb .nil pass0 (pa_cons h1 ha he) hdb he hpl) callM_w
end
end VS

set_option Elab.async false
set_option linter.all false
set_option maxRecDepth 100000
set_option maxHeartbeats 4000000
namespace VS
open PySem PySem.Spec PyProof.Rows L2

inductive Fl where
  | nx | rt (d : D) | bk | ct | rm (xs : List D)
abbrev SS := Rho → Option (Fl × Rho)
def vEnd (c : Ctx) (E : Ends) (F : Hp) (fl : Fl) (ρ' : Rho) : Prop := match fl with
  | .nx => ∀ σ H F', Ext F F' → Ok c F' H σ ρ' → E.nx σ H
  | .rt d => ∀ v σ H F', Ext F F' → Ok c F' H σ ρ' → Rep c.G F' v d → E.rt v H
  | .bk => ∀ σ H F', Ext F F' → Ok c F' H σ ρ' → E.bk σ H
  | .ct => ∀ σ H F', Ext F F' → Ok c F' H σ ρ' → E.ct σ H
  | .rm xs => ∀ p us σ H F', Ext F F' → Ok c F' H σ ρ' → c.H0 p = none → F' p = none → H p = some (.lst us) → Reps c.G F' us xs → E.rt (.ref p) H
theorem vEnd.ext {c : Ctx} {E : Ends} {F F' : Hp} {fl : Fl} {ρ : Rho} (h : vEnd c E F fl ρ) (e : Ext F F') : vEnd c E F' fl ρ := by
  cases fl with
  | nx => exact fun σ H F1 x I => h σ H F1 (e.trans x) I
  | rt d => exact fun v σ H F1 x I r => h v σ H F1 (e.trans x) I r
  | bk => exact fun σ H F1 x I => h σ H F1 (e.trans x) I
  | ct => exact fun σ H F1 x I => h σ H F1 (e.trans x) I
  | rm xs => exact fun p us σ H F1 x I a b c' r => h p us σ H F1 (e.trans x) I a b c' r
def vs (c : Ctx) (s : SS) : TS := fun E σ H => ∃ F ρ, Ok c F H σ ρ ∧ ∃ fl ρ', s ρ = some (fl, ρ') ∧ vEnd c E F fl ρ'
def kN : SS := fun ρ => some (.nx, ρ)
def kS (a b : SS) : SS := fun ρ => match a ρ with
  | some (.nx, ρ1) => b ρ1
  | r => r
def kRet (e : SE) : SS := fun ρ => match e ρ with
  | some (d, ρ1) => some (.rt d, ρ1)
  | none => none
def kIf (t : SB) (a b : SS) : SS := fun ρ => match t ρ with
  | some (true, ρ1) => a ρ1
  | some (false, ρ1) => b ρ1
  | none => none
def kNever : SS := fun _ => none
def kSet (i : Nat) (e : SE) : SS := fun ρ => match e ρ with
  | some (d, ρ1) => some (.nx, ρ1.set i (.val d))
  | none => none
def kDrop (e : SE) : SS := fun ρ => match e ρ with
  | some (_, ρ1) => some (.nx, ρ1)
  | none => none
section
variable {c : Ctx} {X : Cx}
theorem vs_nil : PSs X [] (vs c kN) := pss_of pss_nil fun σ H E ⟨F, ρ, I, fl, ρ', e, q⟩ => by cases e; exact q σ H F Ext.rfl' I
theorem seq_w {a b : SS} (σ : L2.St) (H : Hp) (E : Ends) (h : vs c (kS a b) E σ H) : tSeq (vs c a) (vs c b) E σ H := by
  obtain ⟨F, ρ, I, fl, ρ', e, q⟩ := h
  unfold kS at e
  split at e
  · rename_i ρ1 e1
    exact ⟨F, ρ, I, .nx, ρ1, e1, fun σ1 H1 F1 x1 I1 => ⟨F1, ρ1, I1, fl, ρ', e, q.ext x1⟩⟩
  · rename_i e0
    refine ⟨F, ρ, I, fl, ρ', e, ?_⟩
    cases fl with
    | nx => exact absurd e (e0 _)
    | rt d => exact q
    | bk => exact q
    | ct => exact q
    | rm xs => exact q
theorem vs_cons {st : Stmt} {r : List Stmt} {a b : SS} (h1 : PS X st (vs c a)) (h2 : PSs X r (vs c b)) : PSs X (st :: r) (vs c (kS a b)) := pss_of (pss_cons h1 h2) seq_w
theorem vs_one {st : Stmt} {a : SS} (h1 : PS X st (vs c a)) : PSs X [st] (vs c a) := pss_one h1
theorem vs_ret {e : Expr} {s : SE} {pos} (h : PE X e (vt c s)) : PS X (.Return (some e) pos) (vs c (kRet s)) :=
  ps_of (ps_ret h) fun σ H E ⟨F, ρ, I, fl, ρ', e, q⟩ => by
    unfold kRet at e
    split at e
    · rename_i d ρ1 e1
      cases e
      exact ⟨F, ρ, I, d, ρ', e1, fun v H1 F1 x1 I1 r1 => q v σ H1 F1 x1 I1 r1⟩
    · cases e
theorem vs_if {t : Expr} {a b : List Stmt} {st : SB} {sa sb : SS} {pos} (ht : PT X t (vb c st)) (ha : PSs X a (vs c sa)) (hb : PSs X b (vs c sb)) : PS X (.If t a b pos) (vs c (kIf st sa sb)) :=
  ps_of (ps_if ht ha hb) fun σ H E ⟨F, ρ, I, fl, ρ', e, q⟩ => by
    unfold kIf at e
    split at e
    · rename_i ρ1 e1
      exact ⟨F, ρ, I, true, ρ1, e1, fun H1 F1 x1 I1 => iteT ⟨F1, ρ1, I1, fl, ρ', e, q.ext x1⟩⟩
    · rename_i ρ1 e1
      exact ⟨F, ρ, I, false, ρ1, e1, fun H1 F1 x1 I1 => iteF ⟨F1, ρ1, I1, fl, ρ', e, q.ext x1⟩⟩
    · cases e
theorem vs_never {st : Stmt} : PS X st (vs c kNever) := ps_of ps_never fun σ H E ⟨F, ρ, I, fl, ρ', e, q⟩ => by cases e
theorem vs_drop {e : Expr} {s : SE} {pos : Pos} (h : PE X e (vt c s)) (hs : swapsWith e none pos.line X.env = pure false := by rfl) : PS X (.Expr e pos) (vs c (kDrop s)) :=
  ps_of (ps_expr h hs) fun σ H E ⟨F, ρ, I, fl, ρ', e, q⟩ => by
    unfold kDrop at e
    split at e
    · rename_i d ρ1 e1
      cases e
      exact ⟨F, ρ, I, d, ρ', e1, fun v H1 F1 x1 I1 r1 => q σ H1 F1 x1 I1⟩
    · cases e
theorem Ok.put {F H : Hp} {σ : L2.St} {ρ : Rho} (I : Ok c F H σ ρ) (i : Nat) {v : V} {d : D} (r : Rep c.G F v d) : Ok c F H (σ.set i (some v)) (ρ.set i (.val d)) := by
  refine ⟨by rw [List.length_set, List.length_set]; exact I.len, I.f0, I.fh, I.fr, I.al, I.n0, fun j s hs => ?_, fun a b s t p q ha hb ms mt hp hq => ?_, I.hb, I.tb⟩
  · by_cases hj : i = j
    · subst hj
      have hi : i < ρ.length := by
        have := (List.getElem?_eq_some_iff.mp hs).1
        rwa [List.length_set] at this
      rw [List.getElem?_set_self hi] at hs
      cases hs
      exact ⟨some v, by rw [List.getElem?_set_self (by rw [I.len]; exact hi)], r⟩
    · rw [List.getElem?_set_ne hj] at hs
      obtain ⟨ov, h1, h2⟩ := I.sl j s hs
      exact ⟨ov, by rw [List.getElem?_set_ne hj]; exact h1, h2⟩
  · have no : ∀ (j : Nat) s, (ρ.set i (.val d))[j]? = some s → s.mut = true → i ≠ j := fun j s hs hm z => by
      subst z
      have hi : i < ρ.length := by
        have := (List.getElem?_eq_some_iff.mp hs).1
        rwa [List.length_set] at this
      rw [List.getElem?_set_self hi] at hs
      cases hs; cases hm
    have na := no a s ha ms
    have nb := no b t hb mt
    rw [List.getElem?_set_ne na] at ha hp
    rw [List.getElem?_set_ne nb] at hb hq
    exact I.ap a b s t p q ha hb ms mt hp hq
theorem set_w {i : Nat} {s : SE} (σ : L2.St) (H : Hp) (E : Ends) (h : vs c (kSet i s) E σ H) : tAsg (vt c s) (gName i) E σ H := by
  obtain ⟨F, ρ, I, fl, ρ', e, q⟩ := h
  unfold kSet at e
  split at e
  · rename_i d ρ1 e1
    cases e
    exact ⟨F, ρ, I, d, ρ1, e1, fun v H1 F1 x1 I1 r1 => q _ _ _ x1 (I1.put i r1)⟩
  · cases e
theorem vs_set {i : Nat} {x : Str} {e : Expr} {s : SE} {pos pos' : Pos} (hN : X.N.Nodup) (he : PE X e (vt c s)) (hi : X.N[i]? = some x := by rfl) (hx : Loc X.env.scope x := by first | exact Or.inl rfl | exact Or.inr rfl) (hs : swapsWith e (some (.Name x pos')) pos.line X.env = pure false := by rfl) (hf : X.fn x = true ∨ X.env.scope.names.lookup x = some .local := by first | exact .inl rfl | exact .inr rfl) :
    PS X (.Assign [.Name x pos'] e pos) (vs c (kSet i s)) := ps_of (ps_set hN hi hx he hs hf) set_w
end

def outOf (sl : List Sl) (ρ : Rho) : Option (List D) := match sl with
  | .bor _ :: _ => match ρ with
    | .bor xs :: _ => some xs
    | _ => none
  | .slf k _ :: _ => match ρ with
    | .slf k' xs :: _ => if k' = k then some xs else none
    | _ => none
  | _ => some []
def mir (n : Nat) (s : SS) : Mir := fun sl => match s (sl ++ List.replicate (n - sl.length) .no) with
  | some (.nx, ρ) => match outOf sl ρ with
    | some o => some (.non, o)
    | none => none
  | some (.rt d, ρ) => match outOf sl ρ with
    | some o => some (d, o)
    | none => none
  | _ => none
theorem mir_inv {n : Nat} {s : SS} {sl : List Sl} {d : D} {o : List D} (h : mir n s sl = some (d, o)) : ∃ fl ρ, s (sl ++ List.replicate (n - sl.length) .no) = some (fl, ρ) ∧ outOf sl ρ = some o ∧ (fl = .rt d ∨ (fl = .nx ∧ d = .non)) := by
  unfold mir at h
  split at h
  · split at h
    · cases h; exact ⟨_, _, by assumption, by assumption, .inr ⟨rfl, rfl⟩⟩
    · cases h
  · split at h
    · cases h; exact ⟨_, _, by assumption, by assumption, .inl rfl⟩
    · cases h
  · cases h
theorem ok_start {G : Gx} {F H : Hp} {B : List Addr} {us : List V} {sl : List Sl} (e : Ext F H) (tb : TbOk G.T F H) (a : ArgOk G F H B us sl) (k : Nat) :
    Ok ⟨G, F, H, B⟩ F H (us.map some ++ List.replicate k none) (sl ++ List.replicate k .no) := by
  have atv : ∀ {us : List V} {ds : List D}, Reps G F us ds → ∀ (i : Nat) s, (ds.map Sl.val)[i]? = some s → s.mut = false ∧ ∃ v, us[i]? = some v ∧ ∀ H0 B, SlOk ⟨G, F, H0, B⟩ F H (some v) s := by
    intro us ds r i s h
    rw [List.getElem?_map] at h
    cases e : ds[i]? with
    | none => rw [e] at h; cases h
    | some d =>
      rw [e] at h; cases h
      obtain ⟨v, h1, h2⟩ := r.get e
      exact ⟨rfl, v, h1, fun _ _ => h2⟩
  have hlen := a.length
  -- the given slots
  have main : (∀ (i : Nat) s, sl[i]? = some s → (s.mut = true → i = 0) ∧ ∃ v, us[i]? = some v ∧ SlOk ⟨G, F, H, B⟩ F H (some v) s) ∧ ∀ p ∈ B, ∃ o, H p = some o := by
    cases a with
    | vals r =>
      refine ⟨fun i s h => ?_, fun p h => absurd h (by simp)⟩
      obtain ⟨h1, v, h2, h3⟩ := atv r i s h
      exact ⟨fun z => (by rw [h1] at z; cases z), v, h2, h3 _ _⟩
    | bor hf hh r r' =>
      refine ⟨fun i s h => ?_, fun p h => ?_⟩
      · cases i with
        | zero => simp at h; subst h; exact ⟨fun _ => rfl, _, rfl, _, rfl, by simp, hf, _, hh, r⟩
        | succ i =>
          obtain ⟨h1, v, h2, h3⟩ := atv r' i s (by simpa using h)
          exact ⟨fun z => (by rw [h1] at z; cases z), v, by simpa using h2, h3 _ _⟩
      · rw [List.mem_singleton] at h
        subst h; exact ⟨_, hh⟩
    | slf hf hh r' =>
      refine ⟨fun i s h => ?_, fun p h => ?_⟩
      · cases i with
        | zero => simp at h; subst h; exact ⟨fun _ => rfl, _, rfl, _, rfl, by simp, hf, _, _, hh, ⟨0, rfl⟩, .nil⟩
        | succ i =>
          obtain ⟨h1, v, h2, h3⟩ := atv r' i s (by simpa using h)
          exact ⟨fun z => (by rw [h1] at z; cases z), v, by simpa using h2, h3 _ _⟩
      · rw [List.mem_singleton] at h
        subst h; exact ⟨_, hh⟩
    | lam r l =>
      refine ⟨fun i s h => ?_, fun p h => absurd h (by simp)⟩
      match i with
      | 0 => simp at h; subst h; exact ⟨fun _ => rfl, _, rfl, r⟩
      | 1 => simp at h; subst h; exact ⟨(fun z => nomatch z), _, rfl, _, rfl, l⟩
      | i + 2 => simp at h
  obtain ⟨main, hb⟩ := main
  have part : ∀ (i : Nat) s, (sl ++ List.replicate k Sl.no)[i]? = some s → (i < sl.length ∧ sl[i]? = some s) ∨ (s = .no ∧ (us.map some ++ List.replicate k none)[i]? = some none) := fun i s h => by
    by_cases hi : i < sl.length
    · rw [List.getElem?_append_left hi] at h; exact .inl ⟨hi, h⟩
    · rw [List.getElem?_append_right (by omega), List.getElem?_replicate] at h
      split at h
      · rename_i hk
        cases h
        refine .inr ⟨rfl, ?_⟩
        rw [List.getElem?_append_right (by rw [List.length_map]; omega), List.getElem?_replicate, if_pos (by rw [List.length_map]; omega)]
      · cases h
  refine ⟨by simp [hlen], Ext.rfl', e, fun p o h _ _ => h, fun p o h => ⟨o, h⟩, fun p o _ h => h, fun i s h => ?_, fun i j s t p q hi hj ms mt _ _ _ => ?_, hb, tb⟩
  · rcases part i s h with ⟨hi, h1⟩ | ⟨h1, h2⟩
    · obtain ⟨_, v, h2, h3⟩ := main i s h1
      exact ⟨some v, by rw [List.getElem?_append_left (by rw [List.length_map]; omega), List.getElem?_map, h2]; rfl, h3⟩
    · subst h1; exact ⟨none, h2, trivial⟩
  · have z : ∀ (i : Nat) s, (sl ++ List.replicate k Sl.no)[i]? = some s → s.mut = true → i = 0 := fun i s h m => by
      rcases part i s h with ⟨_, h1⟩ | ⟨h1, _⟩
      · exact (main i s h1).1 m
      · subst h1; cases m
    rw [z i s hi ms, z j t hj mt]
theorem ok_end {G : Gx} {F H F' H' : Hp} {B : List Addr} {us : List V} {sl : List Sl} {σ : L2.St} {ρ : Rho} {o : List D} (e : Ext F H) (a : ArgOk G F H B us sl) (I : Ok ⟨G, F, H, B⟩ F' H' σ ρ) (ho : outOf sl ρ = some o) : Keep G.T B F H F' H' ∧ Out G F' H' B sl o := by
  refine ⟨⟨I.f0, I.fh, I.fr, I.al, I.n0, fun _ => I.tb⟩, ?_⟩
  cases a with
  | vals r => exact out_nil
  | lam r l => exact out_nil
  | bor hf hh r r' =>
    intro p hp
    rw [List.mem_singleton] at hp
    subst hp
    unfold outOf at ho
    dsimp only at ho
    split at ho
    · rename_i xs ρ'
      cases ho
      obtain ⟨ov, h1, h2⟩ := I.sl 0 _ rfl
      cases ov with
      | none => exact h2.elim
      | some v =>
        obtain ⟨q, e1, h3, h4, us, h5, h6⟩ := h2
        have h3 := List.mem_singleton.mp h3
        subst h3
        exact ⟨h4, us, h5, h6⟩
    · cases ho
  | slf hf' hh r' =>
    intro p hp
    rw [List.mem_singleton] at hp
    subst hp
    unfold outOf at ho
    dsimp only at ho
    split at ho
    · rename_i k' xs ρ'
      split at ho
      · rename_i hk
        subst hk
        cases ho
        obtain ⟨ov, h1, h2⟩ := I.sl 0 _ rfl
        cases ov with
        | none => exact h2.elim
        | some v =>
          obtain ⟨q, e1, h3, h4, dx, fs, h5, ⟨n, h6⟩, h7⟩ := h2
          have h3 := List.mem_singleton.mp h3
          subst h3
          exact ⟨h4, dx, fs, h5, ⟨n, h6⟩, h7⟩
      · cases ho
    · cases ho
theorem fn_ok {P : Program} {w : World} {G : Gx} {mg : Str → Option Value} {base : Heap} {x qual : Str} {st : Stmt} {f : Addr} {fd : FuncData} {N ps : List Str} {k : Nat} {s : SS} (F : Fun G.K x qual st f fd) (S : FnScope N ps (defScope st))
    (hb : ∀ (c : Ctx) (cdv : Value) (A : Around) (outer : List Env) (sh : Shared) (H : Hp) (E : XK), c.G = G → Room k (A.deeper (envOfC qual (defScope st) sh.heap.objs.size f cdv)) →
      PSs (cxOf CX0 P w G.K mg base N qual (defScope st) f cdv A outer sh H E).nox (defBody st) (vs c s)) :
    FnOk P w G.K mg base CX0 (k + 1) f fd ps (spV G ps.length (mir N.length s)) := by
  refine F.ok S (fun us H Q E h => ?_) (fun cdv A outer sh H us Q E hr h => ?_)
  · obtain ⟨F0, B, sl, _, _, a, hn, _⟩ := h
    rw [a.length, hn]
  · obtain ⟨F0, B, sl, e, tb, a, hn, d, o, hm, q⟩ := h
    refine ⟨vs ⟨G, F0, H, B⟩ s, hb _ cdv A outer sh H E rfl hr, ?_⟩
    obtain ⟨fl, ρ, h1, h2, h3⟩ := mir_inv hm
    have hl := a.length
    refine ⟨F0, _, (by have := ok_start e tb a (N.length - sl.length); unfold L2.start; rw [hl]; exact this), fl, ρ, h1, ?_⟩
    · have fin : ∀ σ H' F', Ok ⟨G, F0, H, B⟩ F' H' σ ρ → Keep G.T B F0 H F' H' ∧ Out G F' H' B sl o := fun σ H' F' I => ok_end e a I h2
      rcases h3 with rfl | ⟨rfl, rfl⟩
      · exact fun v σ H' F' x I r => q v H' F' (fin σ H' F' I).1 (fin σ H' F' I).2 r
      · exact fun σ H' F' x I => q .non H' F' (fin σ H' F' I).1 (fin σ H' F' I).2 .non
end VS

set_option Elab.async false
set_option linter.all false
set_option maxRecDepth 100000
set_option maxHeartbeats 4000000
namespace VS
open PySem PySem.Spec PyProof.Rows L2

abbrev SI := Rho → Option (List D × Rho)
def Yields (G : Gx) (J : It) (F0 : Hp) (ds : List D) : Prop := ∀ F H, Ext F0 F → Ext F H →
  (∀ (i : Nat) d, ds[i]? = some d → J.go i H ∧ ∀ x H', J.yld i H x H' → ∃ F', Grow F H F' H' ∧ Rep G F' x d) ∧ J.stop ds.length H
def vi (c : Ctx) (s : SI) : TI := fun σ H R => ∃ F ρ, Ok c F H σ ρ ∧ ∃ ds ρ', s ρ = some (ds, ρ') ∧ ∀ J H' F', Ext F F' → Ok c F' H' σ ρ' → Yields c.G J F' ds → R J H'
theorem pi_of {X : Cx} {tg e : Expr} {t t' : TI} (h : PI X tg e t) (w : ∀ σ H R, t' σ H R → t σ H R) : PI X tg e t' := ⟨fun pins s σ H R I q => h.run pins s σ H R I (w σ H R q)⟩
def iSeq (a : SE) : SI := fun ρ => match a ρ with
  | some (.lst xs, ρ') => some (xs, ρ')
  | _ => none
def iTupl (a : SE) : SI := fun ρ => match a ρ with
  | some (.tup xs, ρ') => some (xs, ρ')
  | _ => none
def rng (a : Int) (n : Nat) : List D := (List.range n).map fun i => .int (a + (i : Nat))
def small62 (j : Int) : Prop := -(2 ^ 62) ≤ j ∧ j < 2 ^ 62
instance (j : Int) : Decidable (small62 j) := inferInstanceAs (Decidable (_ ∧ _))
def iR (a : SA) : SI := fun ρ => match a ρ with
  | some ([.int j], ρ') => if small62 j then some (rng 0 j.toNat, ρ') else none
  | _ => none
def iR2 (a : SA) : SI := fun ρ => match a ρ with
  | some ([.int i, .int j], ρ') => if small62 i ∧ small62 j then some (rng i (j - i).toNat, ρ') else none
  | _ => none
def rngD (a : Int) (n : Nat) : List D := (List.range n).map fun i => .int (a - (i : Nat))
def iRD (a : SA) : SI := fun ρ => match a ρ with
  | some ([.int i, .int j, .int k], ρ') => if small62 i ∧ small62 j ∧ k = -1 then some (rngD i (i - j).toNat, ρ') else none
  | _ => none
def enumF : Nat → List D → List D
  | _, [] => []
  | i, d :: r => .tup [.int (i : Nat), d] :: enumF (i + 1) r
theorem enumF_get : ∀ (ds : List D) (k i : Nat), (enumF k ds)[i]? = ds[i]?.map fun d => .tup [.int ((k + i : Nat) : Int), d]
  | [], _, _ => by simp [enumF]
  | d :: r, k, 0 => by simp [enumF]
  | d :: r, k, i + 1 => by
    simp only [enumF, List.getElem?_cons_succ]
    rw [enumF_get r (k + 1) i, show k + 1 + i = k + (i + 1) by omega]
theorem enumF_length : ∀ (ds : List D) (k : Nat), (enumF k ds).length = ds.length
  | [], _ => rfl
  | d :: r, k => by simp [enumF, enumF_length r (k + 1)]
def iEn (a : SA) : SI := fun ρ => match a ρ with
  | some ([.lst xs], ρ') => some (enumF 0 xs, ρ')
  | _ => none
def iEnT (a : SA) : SI := fun ρ => match a ρ with
  | some ([.tup xs], ρ') => some (enumF 0 xs, ρ')
  | _ => none
def zipD (xs ys : List D) : List D := (xs.zip ys).map fun p => .tup [p.1, p.2]
def iZi (a : SA) : SI := fun ρ => match a ρ with
  | some ([.lst xs, .lst ys], ρ') => some (zipD xs ys, ρ')
  | some ([.tup xs, .tup ys], ρ') => some (zipD xs ys, ρ')
  | _ => none
section
variable {c : Ctx} {X : Cx} {tg : Expr}
theorem yields_list {K : PySem.W.Frag} {F0 : Hp} {a : Addr} {us : List V} {ds : List D} (h : F0 a = some (.lst us)) (r : Reps c.G F0 us ds) : Yields c.G (Itl K a) F0 ds := by
  intro F H e1 e2
  have hH : SqL K H a us := .of (e2 _ _ (e1 _ _ h))
  refine ⟨fun i d hd => ?_, us, hH, Nat.le_of_eq r.length⟩
  obtain ⟨v, h1, h2⟩ := r.get hd
  refine ⟨⟨us, v, hH, h1⟩, fun x H' y => ?_⟩
  obtain ⟨y1, y2⟩ := y
  subst y1
  have := y2 us hH
  rw [h1] at this; cases this
  exact ⟨F, .refl e2, h2.ext e1⟩
theorem yields_tup {K : PySem.W.Frag} {F0 : Hp} {a : Addr} {us : List V} {ds : List D} (h : F0 a = some (.tup us)) (r : Reps c.G F0 us ds) : Yields c.G (Itt K a) F0 ds := by
  intro F H e1 e2
  have hH : SqT K H a us := .of (e2 _ _ (e1 _ _ h))
  refine ⟨fun i d hd => ?_, us, hH, Nat.le_of_eq r.length⟩
  obtain ⟨v, h1, h2⟩ := r.get hd
  refine ⟨⟨us, v, hH, h1⟩, fun x H' y => ?_⟩
  obtain ⟨y1, y2⟩ := y
  subst y1
  have := y2 us hH
  rw [h1] at this; cases this
  exact ⟨F, .refl e2, h2.ext e1⟩
theorem vi_list {e : Expr} {a : SE} (h : PE X e (vt c a)) : PI X tg e (vi c (iSeq a)) := pi_of (pi_list h) fun σ H R ⟨F, ρ, I, ds, ρ', e, q⟩ => by
  unfold iSeq at e
  split at e
  · rename_i xs ρ1 e1
    cases e
    refine ⟨F, ρ, I, _, ρ', e1, fun v H1 F1 x1 I1 r1 => ?_⟩
    cases r1 with
    | lst h1 rs => exact ⟨_, rfl, ⟨_, .of (I1.fh _ _ h1)⟩, q _ _ F1 x1 I1 (yields_list h1 rs)⟩
  · cases e
theorem vi_tup {e : Expr} {a : SE} (h : PE X e (vt c a)) : PI X tg e (vi c (iTupl a)) := pi_of (pi_tup h) fun σ H R ⟨F, ρ, I, ds, ρ', e, q⟩ => by
  unfold iTupl at e
  split at e
  · rename_i xs ρ1 e1
    cases e
    refine ⟨F, ρ, I, _, ρ', e1, fun v H1 F1 x1 I1 r1 => ?_⟩
    cases r1 with
    | tup h1 rs => exact ⟨_, rfl, ⟨_, .of (I1.fh _ _ h1)⟩, q _ _ F1 x1 I1 (yields_tup h1 rs)⟩
  · cases e
theorem rng_get {a : Int} {n i : Nat} {d : D} (h : (rng a n)[i]? = some d) : i < n ∧ d = .int (a + (i : Nat)) := by
  unfold rng at h
  rw [List.getElem?_map] at h
  cases e : (List.range n)[i]? with
  | none => rw [e] at h; cases h
  | some j =>
    rw [e] at h; cases h
    obtain ⟨h1, h2⟩ := List.getElem?_eq_some_iff.mp e
    rw [List.getElem_range] at h2
    subst h2
    exact ⟨by simpa using h1, rfl⟩
theorem yields_rng {F0 : Hp} (a : Int) (n : Nat) : Yields c.G (Itr a n) F0 (rng a n) := by
  intro F H e1 e2
  refine ⟨fun i d hd => ?_, by show n ≤ _; simp [rng]⟩
  obtain ⟨h1, h2⟩ := rng_get hd
  subst h2
  refine ⟨h1, fun x H' y => ?_⟩
  obtain ⟨y1, y2⟩ := y
  subst y1 y2
  exact ⟨F, .refl e2, .int _⟩
theorem reps1 {F : Hp} {vs : List V} {d : D} (r : Reps c.G F vs [d]) : ∃ v, vs = [v] ∧ Rep c.G F v d := by
  cases r with
  | cons h r => cases r; exact ⟨_, rfl, h⟩
theorem reps2 {F : Hp} {vs : List V} {d d' : D} (r : Reps c.G F vs [d, d']) : ∃ v v', vs = [v, v'] ∧ Rep c.G F v d ∧ Rep c.G F v' d' := by
  cases r with
  | cons h r =>
    obtain ⟨v', e, h'⟩ := reps1 r
    subst e
    exact ⟨_, _, rfl, h, h'⟩
theorem reps3 {F : Hp} {vs : List V} {d d' d2 : D} (r : Reps c.G F vs [d, d', d2]) : ∃ v v' v2, vs = [v, v', v2] ∧ Rep c.G F v d ∧ Rep c.G F v' d' ∧ Rep c.G F v2 d2 := by
  cases r with
  | cons h r =>
    obtain ⟨v', v2, e, h', h2⟩ := reps2 r
    subst e
    exact ⟨_, _, _, rfl, h, h', h2⟩
theorem vi_range1 {a : Expr} {sa : SA} {p pos : Pos} (hm : X.mg "range" = none) (ha : PA X [a] (va c sa)) (hg : Gl X "range" := by rfl) (hs : starEach [a] X.env = [(false, eval a X.env)] := by rfl) : PI X tg (.Call (.Name "range" p) [a] [] pos) (vi c (iR sa)) :=
  pi_of (pi_range1 hg hm ha hs) fun σ H R ⟨F, ρ, I, ds, ρ', e, q⟩ => by
    unfold iR at e
    split at e
    · rename_i j ρ1 e1
      split at e
      · rename_i hj
        cases e
        refine ⟨F, ρ, I, _, ρ', e1, fun vs H1 F1 x1 I1 r1 => ?_⟩
        obtain ⟨v, ev, r⟩ := reps1 r1
        cases r
        exact ⟨_, ev, hj.1, hj.2, q _ _ F1 x1 I1 (yields_rng 0 _)⟩
      · cases e
    · cases e
theorem vi_range2 {a b : Expr} {sa : SA} {p pos : Pos} (hm : X.mg "range" = none) (ha : PA X [a, b] (va c sa)) (hg : Gl X "range" := by rfl) (hs : starEach [a, b] X.env = [(false, eval a X.env), (false, eval b X.env)] := by rfl) (hs2 : starEach [b] X.env = [(false, eval b X.env)] := by rfl) :
    PI X tg (.Call (.Name "range" p) [a, b] [] pos) (vi c (iR2 sa)) :=
  pi_of (pi_range2 hg hm ha hs hs2) fun σ H R ⟨F, ρ, I, ds, ρ', e, q⟩ => by
    unfold iR2 at e
    split at e
    · rename_i i j ρ1 e1
      split at e
      · rename_i hj
        cases e
        refine ⟨F, ρ, I, _, ρ', e1, fun vs H1 F1 x1 I1 r1 => ?_⟩
        obtain ⟨v, v', ev, r, r'⟩ := reps2 r1
        cases r; cases r'
        exact ⟨_, _, ev, ⟨hj.1.1, hj.1.2, hj.2.1, hj.2.2⟩, q _ _ F1 x1 I1 (yields_rng _ _)⟩
      · cases e
    · cases e
theorem rngD_get {a : Int} {n i : Nat} {d : D} (h : (rngD a n)[i]? = some d) : i < n ∧ d = .int (a - (i : Nat)) := by
  unfold rngD at h
  rw [List.getElem?_map] at h
  cases e : (List.range n)[i]? with
  | none => rw [e] at h; cases h
  | some j =>
    rw [e] at h; cases h
    obtain ⟨h1, h2⟩ := List.getElem?_eq_some_iff.mp e
    rw [List.getElem_range] at h2
    subst h2
    exact ⟨by simpa using h1, rfl⟩
theorem yields_rngD {F0 : Hp} (a : Int) (n : Nat) : Yields c.G (Itc a (-1) n) F0 (rngD a n) := by
  intro F H e1 e2
  refine ⟨fun i d hd => ?_, by show n ≤ _; simp [rngD]⟩
  obtain ⟨h1, h2⟩ := rngD_get hd
  subst h2
  refine ⟨h1, fun x H' y => ?_⟩
  obtain ⟨y1, y2⟩ := y
  subst y1 y2
  refine ⟨F, .refl e2, ?_⟩
  have : a + (i : Int) * (-1) = a - i := by omega
  rw [this]
  exact .int _
theorem vi_rangeD {a b d : Expr} {sa : SA} {p pos : Pos} (hm : X.mg "range" = none) (ha : PA X [a, b, d] (va c sa)) (hg : Gl X "range" := by rfl) (hs : starEach [a, b, d] X.env = (false, eval a X.env) :: starEach [b, d] X.env := by rfl) (hpl : (backTo pos (starEach [b, d] X.env)).any (·.1) = false := by rfl) :
    PI X tg (.Call (.Name "range" p) [a, b, d] [] pos) (vi c (iRD sa)) :=
  pi_of (pi_range3 hg hm ha hs hpl) fun σ H R ⟨F, ρ, I, ds, ρ', e, q⟩ => by
    unfold iRD at e
    split at e
    · rename_i i j k ρ1 e1
      split at e
      · rename_i hj
        cases e
        obtain ⟨h1, h2, h3⟩ := hj
        subst h3
        refine ⟨F, ρ, I, _, ρ', e1, fun vs H1 F1 x1 I1 r1 => ?_⟩
        obtain ⟨v, v', v2, ev, r, r', r2⟩ := reps3 r1
        cases r; cases r'; cases r2
        exact ⟨_, _, _, _, ev, RgC.neg h1.1 h1.2 h2.1 h2.2, q _ _ F1 x1 I1 (yields_rngD _ _)⟩
      · cases e
    · cases e
theorem yields_enum {K : PySem.W.Frag} {F0 : Hp} {a : Addr} {us : List V} {ds : List D} (h : F0 a = some (.lst us)) (r : Reps c.G F0 us ds) : Yields c.G (Ite K a) F0 (enumF 0 ds) := by
  intro F H e1 e2
  have hH : SqL K H a us := .of (e2 _ _ (e1 _ _ h))
  refine ⟨fun i d hd => ?_, us, hH, by rw [enumF_length]; exact Nat.le_of_eq r.length⟩
  rw [enumF_get] at hd
  cases e : ds[i]? with
  | none => rw [e] at hd; cases hd
  | some d0 =>
    rw [e] at hd; cases hd
    obtain ⟨v, h1, h2⟩ := r.get e
    refine ⟨⟨us, v, hH, h1⟩, fun x H' y => ?_⟩
    obtain ⟨T, v', y1, y2, y3, y4⟩ := y
    have := y4 us hH
    rw [h1] at this; cases this
    subst y1 y3
    refine ⟨_, .new e2 y2, .tup upd_same (.cons ?_ (.cons ((h2.ext e1).ext (Ext.upd (ext_none e2 y2))) .nil))⟩
    rw [Nat.zero_add]
    exact .int _
theorem vi_enum {e : Expr} {sa : SA} {p pos tpos : Pos} {elts : List Expr} {kk : Nat} (hm : X.mg "enumerate" = none) (ha : PA X [e] (va c sa)) (hg : Gl X "enumerate" := by rfl) (hs : starEach [e] X.env = [(false, eval e X.env)] := by rfl) :
    PI X (.Tuple elts kk tpos) (.Call (.Name "enumerate" p) [e] [] pos) (vi c (iEn sa)) :=
  pi_of (pi_enum hg hm ha hs) fun σ H R ⟨F, ρ, I, ds, ρ', e, q⟩ => by
    unfold iEn at e
    split at e
    · rename_i xs ρ1 e1
      cases e
      refine ⟨F, ρ, I, _, ρ', e1, fun vs H1 F1 x1 I1 r1 => ?_⟩
      obtain ⟨v, ev, r⟩ := reps1 r1
      cases r with
      | lst h1 rs => exact ⟨_, _, ev, .of (I1.fh _ _ h1), q _ _ F1 x1 I1 (yields_enum h1 rs)⟩
    · cases e
theorem zipD_get {xs ys : List D} {i : Nat} {d : D} (h : (zipD xs ys)[i]? = some d) : ∃ x y, xs[i]? = some x ∧ ys[i]? = some y ∧ d = .tup [x, y] := by
  unfold zipD at h
  rw [List.getElem?_map] at h
  cases e : (xs.zip ys)[i]? with
  | none => rw [e] at h; cases h
  | some p =>
    rw [e] at h; cases h
    have := List.getElem?_zip_eq_some.mp e
    exact ⟨p.1, p.2, this.1, this.2, rfl⟩
theorem zipD_length (xs ys : List D) : (zipD xs ys).length = min xs.length ys.length := by simp [zipD]
theorem yields_zip {K : PySem.W.Frag} {F0 : Hp} {a b : Addr} {us ws : List V} {ds es : List D} (h : F0 a = some (.lst us)) (r : Reps c.G F0 us ds) (h' : F0 b = some (.lst ws)) (r' : Reps c.G F0 ws es) : Yields c.G (Itz K a b) F0 (zipD ds es) := by
  intro F H e1 e2
  have hH : SqL K H a us := .of (e2 _ _ (e1 _ _ h))
  have hH' : SqL K H b ws := .of (e2 _ _ (e1 _ _ h'))
  refine ⟨fun i d hd => ?_, us, ws, hH, hH', by rw [zipD_length, r.length, r'.length]; omega⟩
  obtain ⟨x, y, g1, g2, rfl⟩ := zipD_get hd
  obtain ⟨v, h1, h2⟩ := r.get g1
  obtain ⟨v', h1', h2'⟩ := r'.get g2
  refine ⟨⟨us, ws, v, v', hH, hH', h1, h1'⟩, fun z H' yy => ?_⟩
  obtain ⟨T, w, w', y1, y2, y3, y4, y5⟩ := yy
  have := y4 us hH
  rw [h1] at this; cases this
  have := y5 ws hH'
  rw [h1'] at this; cases this
  subst y1 y3
  have ex := Ext.upd (o := .tup [v, v']) (ext_none e2 y2)
  exact ⟨_, .new e2 y2, .tup upd_same (.cons ((h2.ext e1).ext ex) (.cons ((h2'.ext e1).ext ex) .nil))⟩
theorem yields_zipT {K : PySem.W.Frag} {F0 : Hp} {a b : Addr} {us ws : List V} {ds es : List D} (h : F0 a = some (.tup us)) (r : Reps c.G F0 us ds) (h' : F0 b = some (.tup ws)) (r' : Reps c.G F0 ws es) : Yields c.G (RZ.ItzT K a b) F0 (zipD ds es) := by
  intro F H e1 e2
  have hH : SqT K H a us := .of (e2 _ _ (e1 _ _ h))
  have hH' : SqT K H b ws := .of (e2 _ _ (e1 _ _ h'))
  refine ⟨fun i d hd => ?_, us, ws, hH, hH', by rw [zipD_length, r.length, r'.length]; omega⟩
  obtain ⟨x, y, g1, g2, rfl⟩ := zipD_get hd
  obtain ⟨v, h1, h2⟩ := r.get g1
  obtain ⟨v', h1', h2'⟩ := r'.get g2
  refine ⟨⟨us, ws, v, v', hH, hH', h1, h1'⟩, fun z H' yy => ?_⟩
  obtain ⟨T, w, w', y1, y2, y3, y4, y5⟩ := yy
  have := y4 us hH
  rw [h1] at this; cases this
  have := y5 ws hH'
  rw [h1'] at this; cases this
  subst y1 y3
  have ex := Ext.upd (o := .tup [v, v']) (ext_none e2 y2)
  exact ⟨_, .new e2 y2, .tup upd_same (.cons ((h2.ext e1).ext ex) (.cons ((h2'.ext e1).ext ex) .nil))⟩
theorem vi_zip {e e2 : Expr} {sa : SA} {p pos tpos : Pos} {elts : List Expr} {kk : Nat} (hm : X.mg "zip" = none) (ha : PA X [e, e2] (va c sa)) (hg : Gl X "zip" := by rfl)
    (hs : starEach [e, e2] X.env = (false, eval e X.env) :: starEach [e2] X.env := by rfl) (hpl : (backTo pos (starEach [e2] X.env)).any (·.1) = false := by rfl) :
    PI X (.Tuple elts kk tpos) (.Call (.Name "zip" p) [e, e2] [] pos) (vi c (iZi sa)) :=
  pi_of (RZ.pi_zipA hg hm ha hs hpl) fun σ H R ⟨F, ρ, I, ds, ρ', e, q⟩ => by
    unfold iZi at e
    split at e
    · rename_i xs ys ρ1 e1
      cases e
      refine ⟨F, ρ, I, _, ρ', e1, fun vs H1 F1 x1 I1 r1 => ?_⟩
      obtain ⟨v, v', ev, r, r'⟩ := reps2 r1
      cases r with
      | lst h1 rs =>
        cases r' with
        | lst h2 rs' => exact ⟨_, _, _, _, ev, .inl ⟨.of (I1.fh _ _ h1), .of (I1.fh _ _ h2), q _ _ F1 x1 I1 (yields_zip h1 rs h2 rs')⟩⟩
    · rename_i xs ys ρ1 e1
      cases e
      refine ⟨F, ρ, I, _, ρ', e1, fun vs H1 F1 x1 I1 r1 => ?_⟩
      obtain ⟨v, v', ev, r, r'⟩ := reps2 r1
      cases r with
      | tup h1 rs =>
        cases r' with
        | tup h2 rs' => exact ⟨_, _, _, _, ev, .inr ⟨.of (I1.fh _ _ h1), .of (I1.fh _ _ h2), q _ _ F1 x1 I1 (yields_zipT h1 rs h2 rs')⟩⟩
    · cases e
end

def IteT (K : PySem.W.Frag) (a : Addr) : It :=
  ⟨fun i H => ∃ (xs : List V) (x : V), SqT K H a xs ∧ xs[i]? = some x, fun i H v H' => ∃ T x, v = .ref T ∧ H T = none ∧ H' = upd H T (.tup [.int (i : Nat), x]) ∧ ∀ xs, SqT K H a xs → xs[i]? = some x, fun i H => ∃ xs : List V, SqT K H a xs ∧ xs.length = i⟩
theorem turn_enumT {P : Program} {w : World} {K : PySem.W.Frag} {elts : List Expr} {kk : Nat} {tpos : Pos} (a e it : Addr) (hai : a ≠ it) (hae : a ≠ e) :
    Turn P w K (.Tuple elts kk tpos) (IteT K a) [e, it] e (fun i h => (∃ old, IsEnum h e it (0 + (i : Int)) old) ∧ h.IsTupleIter it a i ∧ e ≠ it) where
  mem := List.mem_cons_self
  obj := by
    rintro i h ⟨⟨old, he⟩, ⟨o, ho, hc, hd⟩, _⟩ b hb
    rcases List.mem_cons.mp hb with rfl | hb
    · exact ⟨_, he, by rintro v q; cases q⟩
    · rw [List.mem_singleton] at hb
      subst hb
      exact ⟨o, ho, by rintro v q; rw [hd] at q; cases q⟩
  keep := by
    rintro i h h' ⟨⟨old, he⟩, hi, hne⟩ k
    exact ⟨⟨old, k e List.mem_cons_self _ he⟩, hi.at fun o q => k it (List.mem_cons_of_mem _ List.mem_cons_self) o q, hne⟩
  item := by
    rintro X rfl rfl rfl hc i pins s σ H E I hf ⟨he, hit, hne⟩ ⟨xs, x, hq, hx⟩
    obtain ⟨its, rv, p, hz⟩ := I.tuple hq
    have hilt : i < its.toArray.size := by
      have := (List.getElem?_eq_some_iff.mp hx).1
      rw [List.size_toArray, ← rv.length]; exact this
    have hh : X.A.in1.handled = none := I.ok.hd hc
    refine wpAny_mono ((GoesN.enumFrom (elts := elts) (x1 := kk) (pos := tpos) 0 (Draws.tuple hh it a hai its.toArray) e hne (by simp only [List.mem_cons, List.not_mem_nil, or_false]; rintro (z | z); exact hne z; exact hae z.symm) List.mem_cons_self).goes i s
      (fun u s2 => ∃ x H', Inv X pins σ H' s2 ∧ RelV x u ∧ (IteT X.K a).yld i H x H' ∧ ((∃ old, IsEnum s2.heap e it (0 + ((i + 1 : Nat) : Int)) old) ∧ s2.heap.IsTupleIter it a (i + 1) ∧ e ≠ it) ∧ ∀ b ∈ [e, it], H' b = none) E hilt ⟨he, hit, p⟩ ?_)
      (fun r s1 ⟨v, h1, h2⟩ => ⟨v, h1, h2⟩) fun _ _ z => z
    rintro v h' tk ⟨T, t, u, rfl, hT, hu, hTup⟩ ⟨he', hit', _⟩ hk htk
    obtain ⟨u', hu', ru⟩ := rv.get hx
    have eu : u = u' := by
      have h1 : its[i]? = some u := by simpa using hu
      rw [hu'] at h1
      exact (Option.some.inj h1).symm
    subst eu
    have new : ObjOk X.prog X.w (upd H T (.tup [.int (i : Nat), x])) h' T (.tup [.int (i : Nat), x]) := by
      refine ⟨by show 2 ≤ sizeLine; decide, [.int (0 + (i : Int)) t, u], .cons ⟨t, by rw [Int.zero_add]⟩ (.cons ru .nil), hTup⟩
    refine ⟨.ref T, _, I.turnedNew (ch := [e, it]) hk hf hT new, rfl, ⟨T, x, rfl, I.hok.fresh hT, rfl, fun ys hy => by rw [I.tuple_inj hy hq]; exact hx⟩, ⟨he', hit', hne⟩, fun b hb => ?_⟩
    have hbl : b < s.heap.objs.size := by
      obtain ⟨⟨old, he⟩, ⟨o, ho, _⟩⟩ := And.intro he hit
      rcases List.mem_cons.mp hb with rfl | hb
      · exact Heap.lt_size he
      · rw [List.mem_singleton] at hb; subst hb; exact Heap.lt_size ho
    rw [upd_ne (Nat.ne_of_lt (Nat.lt_of_lt_of_le hbl hT))]
    exact (hf b hb).1
  done := by
    rintro X rfl rfl rfl hc i pins s σ H E I hf ⟨he, hit, hne⟩ ⟨xs, hq, hx⟩
    obtain ⟨its, rv, p, hz⟩ := I.tuple hq
    have hn : its.toArray.size = i := by rw [List.size_toArray, ← rv.length]; exact hx
    have hh : X.A.in1.handled = none := I.ok.hd hc
    refine wpAny_mono ((GoesN.enumFrom (elts := elts) (x1 := kk) (pos := tpos) 0 (Draws.tuple hh it a hai its.toArray) e hne (by simp only [List.mem_cons, List.not_mem_nil, or_false]; rintro (z | z); exact hne z; exact hae z.symm) List.mem_cons_self).stops s
      (fun s2 => Inv X pins σ H s2) E (by rw [hn]; exact ⟨he, hit, p⟩) fun h' tk hk htk => I.turnedL (ch := [e, it]) hk hf) (fun r s1 z => z) fun _ _ z => z
  self := by
    rintro A i s Q E ⟨⟨old, he⟩, _⟩ h
    exact wpAny_pyIter_enum he h
end VS

set_option Elab.async false
set_option linter.all false
set_option maxRecDepth 100000
set_option maxHeartbeats 4000000
namespace VS
open PySem PySem.Spec PyProof.Rows L2

abbrev titer (t : Addr) : Obj := { cls := .type "tuple_iterator", data := .fields #[.ref t, .int 0 0] }
abbrev enumAt (it : Addr) : Obj := { cls := .type "enumerate", data := .fields #[.none, .bool false, .ref it, rawInt 0, .none, .none] }
theorem made_enumT (t : Addr) (its : Array Value) : Meets (Builtin.«enumerate.__new__» ⟨[.type "enumerate", .ref t], []⟩)
    (fun _ R s => s.heap.IsTuple t its ∧ R (.ok (.ret (.ref (s.heap.push (titer t)).objs.size))) { s with heap := (s.heap.push (titer t)).push (enumAt s.heap.objs.size) }) := by
  refine .of_wp fun prog w A R s q => ?_
  rcases s with ⟨h0, gs, dr, tk, os⟩
  rcases q with ⟨ht, q⟩
  have known := sub_enumerate
  have begins : ∀ {A' : Around} {E : Value → Shared → Prop} {Q : Value → Shared → Prop}, Q (.ref h0.objs.size) ⟨h0.push (titer t), gs, dr, tk, os⟩ → wpAny (model prog w) A' (pyIter (.ref t)) Q E ⟨h0, gs, dr, tk, os⟩ :=
    fun z => wpAny_pyIter_tuple (s := ⟨h0, gs, dr, tk, os⟩) ht z
  wp_walk using begins
  refine wpAny_stack_any fun st => wpAny_pure ?_
  split
  · rename_i cl _ _ _ _ _
    cases (cl == Value.type "enumerate") <;> (wp_walk using begins; exact ⟨_, rfl, q⟩)
  · wp_walk using begins
    exact ⟨_, rfl, q⟩
theorem call_enumT {prog : Program} {w : World} {A : Around} {E : Value → Shared → Prop} {s : Shared} {t : Addr} {its : Array Value} {Q : Value → Shared → Prop} (ht : s.heap.IsTuple t its)
    (q : ∀ h', IsEnum h' (s.heap.objs.size + 1) s.heap.objs.size 0 .none → h'.IsTupleIter s.heap.objs.size t 0 → (∀ b o, s.heap.get? b = some o → h'.get? b = some o) → Q (.ref (s.heap.objs.size + 1)) { s with heap := h' }) :
    wpAny (model prog w) A (call (.type "enumerate") [.ref t]) Q E s := by
  have sz : (s.heap.push (titer t)).objs.size = s.heap.objs.size + 1 := Heap.size_push _ _
  have at1 : IsEnum ((s.heap.push (titer t)).push (enumAt s.heap.objs.size)) (s.heap.objs.size + 1) s.heap.objs.size 0 .none := by
    have z := Heap.get?_push_size (s.heap.push (titer t)) (o := enumAt s.heap.objs.size) rfl
    rwa [sz] at z
  have at0 : ((s.heap.push (titer t)).push (enumAt s.heap.objs.size)).IsTupleIter s.heap.objs.size t 0 := ⟨_, Heap.get?_push_of_some _ (Heap.get?_push_size _ rfl), rfl, rfl⟩
  have fin := q _ at1 at0 fun b o z => Heap.get?_push_of_some _ (Heap.get?_push_of_some _ z)
  refine callType_new F.called_enumerate (by decide) (F.typeCall_enumerate_1 _) (F.newCall_enumerate_1 _) (fun ob => F.args_object_init_2 ob _) F.entry_enumerate_new (made_enumT t its) ⟨ht, ?_⟩
  rw [sz]
  exact ⟨⟨_, at1, rfl⟩, fin⟩
def iEnumT (K : PySem.W.Frag) (ta : TA) : TI := fun σ H R => ta σ H fun vs H1 => ∃ a xs, vs = [.ref a] ∧ SqT K H1 a xs ∧ R (IteT K a) H1
theorem pi_enumT {X : Cx} {e : Expr} {ta : TA} {p pos tpos : Pos} {elts : List Expr} {kk : Nat} (hg : Gl X "enumerate") (hm : X.mg "enumerate" = none) (ha : PA X [e] ta) (one : starEach [e] X.env = [(false, eval e X.env)] := by rfl) :
    PI X (.Tuple elts kk tpos) (.Call (.Name "enumerate" p) [e] [] pos) (iEnumT X.K ta) := by
  constructor
  intro pins s σ H R I q
  refine Call_ (ld_blt I hg hm boot_enumerate (PyProof.Rows.callWith_type1 (thn (ha.run pos pins s σ H _ I q) ?_) one rfl))
  rintro us s1 ⟨vs, H1, I1, r1, a, xs, rfl, hq, fin⟩
  obtain ⟨u, rfl, ru⟩ := vals1 r1
  cases ru
  obtain ⟨its, rv, pt, _⟩ := I1.tuple hq
  have al : a < s1.heap.objs.size := by obtain ⟨o, ho, _⟩ := pt; exact Heap.lt_size ho
  refine call_enumT pt fun h' he hit hk => wpAny_pyIter_enum he ?_
  have I2 : Inv X pins σ H1 { s1 with heap := h' } := I1.kept (t' := s1.toks) hk
  refine ⟨s1.heap.objs.size + 1, [s1.heap.objs.size + 1, s1.heap.objs.size], _, _, H1, rfl, I2, turn_enumT a (s1.heap.objs.size + 1) s1.heap.objs.size (Nat.ne_of_lt al) (Nat.ne_of_lt (Nat.lt_succ_of_lt al)), ⟨⟨.none, he⟩, hit, Nat.succ_ne_self _⟩, ?_, fin⟩
  intro b hb
  have le : s1.heap.objs.size ≤ b := by
    rcases List.mem_cons.mp hb with rfl | hb
    · exact Nat.le_succ _
    · rw [List.mem_singleton] at hb; exact Nat.le_of_eq hb.symm
  exact I1.fpOk le (I1.hok.fresh le)
section
variable {c : Ctx} {X : Cx}
theorem yields_enumT {K : PySem.W.Frag} {F0 : Hp} {a : Addr} {us : List V} {ds : List D} (h : F0 a = some (.tup us)) (r : Reps c.G F0 us ds) : Yields c.G (IteT K a) F0 (enumF 0 ds) := by
  intro F H e1 e2
  have hH : SqT K H a us := .of (e2 _ _ (e1 _ _ h))
  refine ⟨fun i d hd => ?_, us, hH, by rw [enumF_length]; exact r.length⟩
  rw [enumF_get] at hd
  cases e : ds[i]? with
  | none => rw [e] at hd; cases hd
  | some d0 =>
    rw [e] at hd; cases hd
    obtain ⟨v, h1, h2⟩ := r.get e
    refine ⟨⟨us, v, hH, h1⟩, fun x H' y => ?_⟩
    obtain ⟨T, v', y1, y2, y3, y4⟩ := y
    have := y4 us hH
    rw [h1] at this; cases this
    subst y1 y3
    refine ⟨_, .new e2 y2, .tup upd_same (.cons ?_ (.cons ((h2.ext e1).ext (Ext.upd (ext_none e2 y2))) .nil))⟩
    rw [Nat.zero_add]
    exact .int _
theorem vi_enumT {e : Expr} {sa : SA} {p pos tpos : Pos} {elts : List Expr} {kk : Nat} (hm : X.mg "enumerate" = none) (ha : PA X [e] (va c sa)) (hg : Gl X "enumerate" := by rfl) (hs : starEach [e] X.env = [(false, eval e X.env)] := by rfl) :
    PI X (.Tuple elts kk tpos) (.Call (.Name "enumerate" p) [e] [] pos) (vi c (iEnT sa)) :=
  pi_of (pi_enumT hg hm ha hs) fun σ H R ⟨F, ρ, I, ds, ρ', e, q⟩ => by
    unfold iEnT at e
    split at e
    · rename_i xs ρ1 e1
      cases e
      refine ⟨F, ρ, I, _, ρ', e1, fun vs H1 F1 x1 I1 r1 => ?_⟩
      obtain ⟨v, ev, r⟩ := reps1 r1
      cases r with
      | tup h1 rs => exact ⟨_, _, ev, .of (I1.fh _ _ h1), q _ _ F1 x1 I1 (yields_enumT h1 rs)⟩
    · cases e

def gsN : List Nat → TGs
  | [] => gNil
  | i :: r => gCons (gName i) (gsN r)
inductive Tg where
  | nm (i : Nat) | tp (is : List Nat) | np (i : Nat) (is : List Nat)
def gT (K : PySem.W.Frag) : Tg → TG
  | .nm i => gName i
  | .tp is => L2.gTup K is.length (gsN is)
  | .np i is => L2.gTup K 2 (gCons (gName i) (gCons (L2.gTup K is.length (gsN is)) gNil))
def sets : List Nat → List D → Rho → Option Rho
  | [], [], ρ => some ρ
  | i :: r, d :: ds, ρ => sets r ds (ρ.set i (.val d))
  | _, _, _ => none
def tgt : Tg → D → Rho → Option Rho
  | .nm i, d, ρ => some (ρ.set i (.val d))
  | .tp is, .tup ds, ρ => sets is ds ρ
  | .np i is, .tup [d, .tup ds], ρ => sets is ds (ρ.set i (.val d))
  | _, _, _ => none
def Tg.ix : Tg → List Nat
  | .nm i => [i]
  | .tp is => is
  | .np i is => i :: is
theorem wipe_set {σ : L2.St} {i : Nat} {x : Option V} : ∀ {vs : List Nat}, i ∈ vs → wipe (σ.set i x) vs = wipe σ vs := by
  have at' : ∀ (vs : List Nat) (σ : L2.St) (j : Nat), (wipe σ vs)[j]? = if j ∈ vs then (if j < σ.length then some none else none) else σ[j]? := by
    intro vs
    induction vs with
    | nil => intro σ j; simp [wipe]
    | cons v vs ih =>
      intro σ j
      unfold wipe
      by_cases hv : v = j
      · subst hv
        by_cases hl : v < σ.length
        · rw [List.getElem?_set_self (by rw [wipe_length]; exact hl)]; simp [hl]
        · rw [List.getElem?_eq_none (by rw [List.length_set, wipe_length]; omega)]; simp [hl]
      · rw [List.getElem?_set_ne hv, ih σ j]
        have : (j ∈ v :: vs) ↔ j ∈ vs := by simp [Ne.symm hv]
        simp only [this]
  intro vs hi
  apply List.ext_getElem?
  intro j
  rw [at', at']
  by_cases hj : j ∈ vs
  · simp [hj]
  · have : i ≠ j := fun z => hj (z ▸ hi)
    simp [hj, List.getElem?_set_ne this]
theorem sets_w {F H : Hp} : ∀ {is : List Nat} {ds : List D} {ρ ρ' : Rho} {us : List V} {σ : L2.St} {Q : L2.St → Hp → Prop} (_ : Ok c F H σ ρ) (_ : Reps c.G F us ds) (_ : sets is ds ρ = some ρ')
    (_ : ∀ σ', Ok c F H σ' ρ' → (∀ vs : List Nat, (∀ i ∈ is, i ∈ vs) → wipe σ' vs = wipe σ vs) → Q σ' H), gsN is us σ H Q
  | [], [], ρ, ρ', us, σ, Q, I, r, h, q => by
    cases r
    unfold sets at h
    cases h
    exact ⟨rfl, q σ I fun _ _ => rfl⟩
  | i :: is, d :: ds, ρ, ρ', us, σ, Q, I, r, h, q => by
    cases r with
    | cons r1 r2 =>
      unfold sets at h
      refine ⟨_, _, rfl, sets_w (I.put i r1) r2 h fun σ' I' w => q σ' I' fun vs hv => ?_⟩
      rw [w vs fun j hj => hv j (List.mem_cons_of_mem _ hj)]
      exact wipe_set (hv i List.mem_cons_self)
  | [], _ :: _, _, _, _, _, _, _, _, h, _ => by unfold sets at h; cases h
  | _ :: _, [], _, _, _, _, _, _, _, h, _ => by unfold sets at h; cases h
theorem sets_len : ∀ {is : List Nat} {ds : List D} {ρ ρ' : Rho}, sets is ds ρ = some ρ' → ds.length = is.length
  | [], [], _, _, _ => rfl
  | _ :: is, _ :: ds, _, _, h => by unfold sets at h; simp [sets_len h]
  | [], _ :: _, _, _, h => by unfold sets at h; cases h
  | _ :: _, [], _, _, h => by unfold sets at h; cases h
theorem tgt_w {K : PySem.W.Frag} {F H : Hp} {t : Tg} {d : D} {ρ ρ' : Rho} {v : V} {σ : L2.St} {Q : L2.St → Hp → Prop} (I : Ok c F H σ ρ) (r : Rep c.G F v d) (h : tgt t d ρ = some ρ')
    (q : ∀ σ', Ok c F H σ' ρ' → (∀ vs : List Nat, (∀ i ∈ t.ix, i ∈ vs) → wipe σ' vs = wipe σ vs) → Q σ' H) : gT K t v σ H Q := by
  cases t with
  | nm i =>
    unfold tgt at h
    cases h
    exact q _ (I.put i r) fun vs hv => wipe_set (hv i List.mem_cons_self)
  | tp is =>
    cases d with
    | tup ds =>
      have h : sets is ds ρ = some ρ' := h
      cases r with
      | tup h1 rs => exact ⟨_, _, rfl, .of (I.fh _ _ h1), by rw [rs.length]; exact sets_len h, sets_w I rs h q⟩
    | _ => simp [tgt] at h
  | np i is =>
    unfold tgt at h
    split at h
    · rename_i e; cases e
    · rename_i e; cases e
    · rename_i e
      cases e
      cases r with
      | tup h1 rs =>
        cases rs with
        | cons r1 r2 =>
          cases r2 with
          | cons r2 r3 =>
            cases r3
            cases r2 with
            | tup h2 rs2 =>
              refine ⟨_, _, rfl, .of (I.fh _ _ h1), rfl, _, _, rfl, _, _, rfl, ⟨_, _, rfl, .of (I.fh _ _ h2), by rw [rs2.length]; exact sets_len h, sets_w (I.put i r1) rs2 h fun σ' I' w => ⟨rfl, q σ' I' fun vs hv => ?_⟩⟩⟩
              rw [w vs fun j hj => hv j (List.mem_cons_of_mem _ hj)]
              exact wipe_set (hv i List.mem_cons_self)
    · cases h

def kLoop (t : Tg) (b : SS) : List D → SS
  | [], ρ => some (.nx, ρ)
  | d :: r, ρ => match tgt t d ρ with
    | some ρ1 => match b ρ1 with
      | some (.nx, ρ2) => kLoop t b r ρ2
      | some (.ct, ρ2) => kLoop t b r ρ2
      | some (.bk, ρ2) => some (.nx, ρ2)
      | some (.rt x, ρ2) => some (.rt x, ρ2)
      | some (.rm x, ρ2) => some (.rm x, ρ2)
      | none => none
    | none => none
def kFor (it : SI) (t : Tg) (b : SS) : SS := fun ρ => match it ρ with
  | some (ds, ρ1) => kLoop t b ds ρ1
  | none => none
theorem vs_for {tg iter : Expr} {body : List Stmt} {it : SI} {t : Tg} {b : SS} {pos : Pos} (hp : PassesOwn (model X.prog X.w) X.A X.env X.xe) (hc : X.calm = true) (hi : PI X tg iter (vi c it)) (hg : PG X tg (gT X.K t)) (hb : PSs X body (vs c b))
    (hs : ∀ x, foldedSetIterable iter X.env x = pure x := by intro _; rfl) : PS X (.For tg iter body [] pos) (vs c (kFor it t b)) :=
  ps_of (ps_for hp hc hi hg hb hs) fun σ H E ⟨F, ρ, I, fl, ρ', e, q⟩ => by
    unfold kFor at e
    split at e
    · rename_i ds ρ1 e1
      refine ⟨F, ρ, I, ds, ρ1, e1, fun J H1 F1 x1 I1 y => ?_⟩
      refine ⟨fun i m σ H => m = ds.length - i ∧ i ≤ ds.length ∧ ∃ F2 ρ2, Ok c F2 H σ ρ2 ∧ Ext F1 F2 ∧ kLoop t b (ds.drop i) ρ2 = some (fl, ρ'), ⟨ds.length, by simp, Nat.zero_le _, F1, ρ1, I1, Ext.rfl', e⟩, ?_⟩
      rintro i m σ2 H2 ⟨rfl, hi, F2, ρ2, I2, x2, e2⟩
      obtain ⟨y1, y2⟩ := y F2 H2 x2 I2.fh
      by_cases hlt : i < ds.length
      · rw [List.drop_eq_getElem_cons hlt] at e2
        unfold kLoop at e2
        obtain ⟨g1, g2⟩ := y1 i ds[i] (by simp [hlt])
        split at e2
        · rename_i ρ3 e3
          refine .inr ⟨g1, fun σ' H' => i + 1 ≤ ds.length ∧ ∃ F2 ρ2, Ok c F2 H' σ' ρ2 ∧ Ext F1 F2 ∧ kLoop t b (ds.drop (i + 1)) ρ2 = some (fl, ρ'), fun σ' H' ⟨h1, h2⟩ => ⟨ds.length - (i + 1), by omega, rfl, h1, h2⟩, fun x H' yy => ?_⟩
          obtain ⟨F3, g3, r3⟩ := g2 x H' yy
          refine tgt_w (I2.grow g3) r3 e3 fun σ4 I4 _ => ?_
          have x3 : Ext F1 F3 := x2.trans g3.f
          split at e2
          · rename_i ρ5 e5
            exact ⟨F3, ρ3, I4, .nx, ρ5, e5, fun σ6 H6 F6 x6 I6 => ⟨hlt, F6, ρ5, I6, x3.trans x6, e2⟩⟩
          · rename_i ρ5 e5
            exact ⟨F3, ρ3, I4, .ct, ρ5, e5, fun σ6 H6 F6 x6 I6 => ⟨hlt, F6, ρ5, I6, x3.trans x6, e2⟩⟩
          · rename_i ρ5 e5
            cases e2
            exact ⟨F3, ρ3, I4, .bk, ρ', e5, fun σ6 H6 F6 x6 I6 => q σ6 H6 F6 ((x1.trans x3).trans x6) I6⟩
          · rename_i d5 ρ5 e5
            cases e2
            exact ⟨F3, ρ3, I4, .rt d5, ρ', e5, fun v σ6 H6 F6 x6 I6 r6 => q v σ6 H6 F6 ((x1.trans x3).trans x6) I6 r6⟩
          · rename_i d5 ρ5 e5
            cases e2
            exact ⟨F3, ρ3, I4, .rm d5, ρ', e5, fun p us σ6 H6 F6 x6 I6 a1 a2 a3 r6 => q p us σ6 H6 F6 ((x1.trans x3).trans x6) I6 a1 a2 a3 r6⟩
          · cases e2
        · cases e2
      · have hi' : i = ds.length := by omega
        subst hi'
        rw [List.drop_length] at e2
        unfold kLoop at e2
        cases e2
        exact .inl ⟨y2, q σ2 H2 F2 (x1.trans x2) I2⟩
    · cases e
def kWh (t : SB) (b : SS) : Nat → SS
  | 0, _ => none
  | n + 1, ρ => match t ρ with
    | some (true, ρ1) => match b ρ1 with
      | some (.nx, ρ2) => kWh t b n ρ2
      | some (.ct, ρ2) => kWh t b n ρ2
      | some (.bk, ρ2) => some (.nx, ρ2)
      | some (.rt x, ρ2) => some (.rt x, ρ2)
      | some (.rm x, ρ2) => some (.rm x, ρ2)
      | none => none
    | some (false, ρ1) => some (.nx, ρ1)
    | none => none
def kWhile (n : Rho → Nat) (t : SB) (b : SS) : SS := fun ρ => kWh t b (n ρ) ρ
theorem vs_while {test : Expr} {body : List Stmt} {t : SB} {b : SS} {pos : Pos} (n : Rho → Nat) (hp : PassesOwn (model X.prog X.w) X.A X.env X.xe) (ht : PT X test (vb c t)) (hb : PSs X body (vs c b)) : PS X (.While test body [] pos) (vs c (kWhile n t b)) :=
  ps_of (ps_while hp ht hb) fun σ H E ⟨F, ρ, I, fl, ρ', e, q⟩ => by
    refine ⟨fun m σ H => ∃ F2 ρ2, Ok c F2 H σ ρ2 ∧ Ext F F2 ∧ kWh t b m ρ2 = some (fl, ρ'), ⟨n ρ, F, ρ, I, Ext.rfl', e⟩, ?_⟩
    rintro m σ2 H2 ⟨F2, ρ2, I2, x2, e2⟩
    cases m with
    | zero => unfold kWh at e2; cases e2
    | succ m =>
      unfold kWh at e2
      split at e2
      · rename_i ρ3 e3
        refine ⟨F2, ρ2, I2, true, ρ3, e3, fun H3 F3 x3 I3 => iteT ⟨fun σ' H' => ∃ F2 ρ2, Ok c F2 H' σ' ρ2 ∧ Ext F F2 ∧ kWh t b m ρ2 = some (fl, ρ'), fun σ' H' h => ⟨m, Nat.lt_succ_self _, h⟩, ?_⟩⟩
        have x4 : Ext F F3 := x2.trans x3
        split at e2
        · rename_i ρ5 e5
          exact ⟨F3, ρ3, I3, .nx, ρ5, e5, fun σ6 H6 F6 x6 I6 => ⟨F6, ρ5, I6, x4.trans x6, e2⟩⟩
        · rename_i ρ5 e5
          exact ⟨F3, ρ3, I3, .ct, ρ5, e5, fun σ6 H6 F6 x6 I6 => ⟨F6, ρ5, I6, x4.trans x6, e2⟩⟩
        · rename_i ρ5 e5
          cases e2
          exact ⟨F3, ρ3, I3, .bk, ρ', e5, fun σ6 H6 F6 x6 I6 => q σ6 H6 F6 (x4.trans x6) I6⟩
        · rename_i d5 ρ5 e5
          cases e2
          exact ⟨F3, ρ3, I3, .rt d5, ρ', e5, fun v σ6 H6 F6 x6 I6 r6 => q v σ6 H6 F6 (x4.trans x6) I6 r6⟩
        · rename_i d5 ρ5 e5
          cases e2
          exact ⟨F3, ρ3, I3, .rm d5, ρ', e5, fun p us σ6 H6 F6 x6 I6 a1 a2 a3 r6 => q p us σ6 H6 F6 (x4.trans x6) I6 a1 a2 a3 r6⟩
        · cases e2
      · rename_i ρ3 e3
        cases e2
        exact ⟨F2, ρ2, I2, false, ρ', e3, fun H3 F3 x3 I3 => iteF (q σ2 H3 F3 (x2.trans x3) I3)⟩
      · cases e2
end
end VS

set_option Elab.async false
set_option linter.all false
set_option maxRecDepth 100000
set_option maxHeartbeats 4000000
namespace VS
open PySem PySem.Spec PyProof.Rows L2

def toB : Sl → Sl
  | .own xs => .bor xs
  | .slf _ _ => .no
  | .dic _ _ _ => .no
  | s => s
def wipeR (ρ : Rho) : List Nat → Rho
  | [] => ρ
  | v :: vs => (wipeR ρ vs).set v .no
def blkR (ix : List Nat) (ρ : Rho) : Rho := wipeR (ρ.map toB) ix
def restore : Rho → Rho → Option Rho
  | [], [] => some []
  | .own _ :: r, .bor ys :: r' => (restore r r').map (.own ys :: ·)
  | .bor _ :: r, .bor ys :: r' => (restore r r').map (.bor ys :: ·)
  | .own _ :: _, _ => none
  | .bor _ :: _, _ => none
  | s :: r, _ :: r' => (restore r r').map (s :: ·)
  | _, _ => none
def okT (ix : List Nat) (ρ : Rho) : Bool := ix.all fun i => match ρ[i]? with
  | some (.own _) => false
  | some (.bor _) => false
  | _ => true
def turnC (t : Tg) (tt : SB) (e : SE) (d : D) (ρ : Rho) : Option (Option D × Rho) := if okT t.ix ρ = true then match tgt t d (blkR t.ix ρ) with
  | some ρ1 => match tt ρ1 with
    | some (true, ρ2) => match e ρ2 with
      | some (x, ρ3) => (restore ρ ρ3).map fun r => (some x, r)
      | none => none
    | some (false, ρ2) => (restore ρ ρ2).map fun r => (none, r)
    | none => none
  | none => none
  else none
theorem okT_no {ix : List Nat} {ρ : Rho} (h : okT ix ρ = true) {i : Nat} {xs : List D} (hx : ρ[i]? = some (.own xs) ∨ ρ[i]? = some (.bor xs)) : i ∉ ix := fun hi => by
  have z := List.all_eq_true.mp h i hi
  rcases hx with hx | hx <;> (rw [hx] at z; cases z)
def cLoop (t : Tg) (tt : SB) (e : SE) : List D → Rho → Option (List D × Rho)
  | [], ρ => some ([], ρ)
  | d :: r, ρ => match turnC t tt e d ρ with
    | some (some x, ρ1) => match cLoop t tt e r ρ1 with
      | some (xs, ρ2) => some (x :: xs, ρ2)
      | none => none
    | some (none, ρ1) => cLoop t tt e r ρ1
    | none => none
def sComp (it : SI) (t : Tg) (tt : SB) (e : SE) : SE := fun ρ => match it ρ with
  | some (ds, ρ1) => match cLoop t tt e ds ρ1 with
    | some (out, ρ2) => if out.length ≤ LN then some (.lst out, ρ2) else none
    | none => none
  | none => none
def bYes : SB := fun ρ => some (true, ρ)

theorem wipeR_length (ρ : Rho) : ∀ vs, (wipeR ρ vs).length = ρ.length
  | [] => rfl
  | v :: vs => by unfold wipeR; rw [List.length_set, wipeR_length ρ vs]
theorem wipeR_get (ρ : Rho) : ∀ (vs : List Nat) (j : Nat), (wipeR ρ vs)[j]? = if j ∈ vs then (if j < ρ.length then some .no else none) else ρ[j]?
  | [], j => by simp [wipeR]
  | v :: vs, j => by
    unfold wipeR
    by_cases hv : v = j
    · subst hv
      by_cases hl : v < ρ.length
      · rw [List.getElem?_set_self (by rw [wipeR_length]; exact hl)]; simp [hl]
      · rw [List.getElem?_eq_none (by rw [List.length_set, wipeR_length]; omega)]; simp [hl]
    · rw [List.getElem?_set_ne hv, wipeR_get ρ vs j]
      have : (j ∈ v :: vs) ↔ j ∈ vs := by simp [Ne.symm hv]
      simp only [this]
theorem wipe_get (σ : L2.St) : ∀ (vs : List Nat) (j : Nat), (wipe σ vs)[j]? = if j ∈ vs then (if j < σ.length then some none else none) else σ[j]?
  | [], j => by simp [wipe]
  | v :: vs, j => by
    unfold wipe
    by_cases hv : v = j
    · subst hv
      by_cases hl : v < σ.length
      · rw [List.getElem?_set_self (by rw [wipe_length]; exact hl)]; simp [hl]
      · rw [List.getElem?_eq_none (by rw [List.length_set, wipe_length]; omega)]; simp [hl]
    · rw [List.getElem?_set_ne hv, wipe_get σ vs j]
      have : (j ∈ v :: vs) ↔ j ∈ vs := by simp [Ne.symm hv]
      simp only [this]
theorem blkR_get {ix : List Nat} {ρ : Rho} {j : Nat} {s : Sl} (h : (blkR ix ρ)[j]? = some s) : (s = .no ∧ j < ρ.length) ∨ (j ∉ ix ∧ ∃ s0, ρ[j]? = some s0 ∧ s = toB s0) := by
  unfold blkR at h
  rw [wipeR_get] at h
  by_cases hj : j ∈ ix
  · rw [if_pos hj] at h
    split at h
    · rename_i hl
      cases h
      rw [List.length_map] at hl
      exact .inl ⟨rfl, hl⟩
    · cases h
  · rw [if_neg hj, List.getElem?_map] at h
    cases e : ρ[j]? with
    | none => rw [e] at h; cases h
    | some s0 => rw [e] at h; cases h; exact .inr ⟨hj, s0, rfl, rfl⟩
def mutA (σ : L2.St) (ρ : Rho) : List Addr := (List.range ρ.length).filterMap fun i => match ρ[i]?, σ[i]? with
  | some (.own _), some (some (V.ref p)) => some p
  | some (.bor _), some (some (V.ref p)) => some p
  | _, _ => none
theorem mem_mutA {σ : L2.St} {ρ : Rho} {p : Addr} : p ∈ mutA σ ρ ↔ ∃ (i : Nat) (xs : List D), (ρ[i]? = some (.own xs) ∨ ρ[i]? = some (.bor xs)) ∧ σ[i]? = some (some (V.ref p)) := by
  unfold mutA
  rw [List.mem_filterMap]
  constructor
  · rintro ⟨i, hi, h⟩
    split at h
    · rename_i xs q h1 h2; cases h; exact ⟨i, xs, .inl h1, h2⟩
    · rename_i xs q h1 h2; cases h; exact ⟨i, xs, .inr h1, h2⟩
    · cases h
  · rintro ⟨i, xs, h1, h2⟩
    have hi : i < ρ.length := by rcases h1 with h1 | h1 <;> exact (List.getElem?_eq_some_iff.mp h1).1
    refine ⟨i, List.mem_range.mpr hi, ?_⟩
    rcases h1 with h1 | h1 <;> rw [h1, h2]
section
variable {c : Ctx} {X : Cx}
theorem Ok.enter {F H : Hp} {σ : L2.St} {ρ : Rho} (I : Ok c F H σ ρ) (ix : List Nat) : Ok ⟨c.G, F, H, mutA σ ρ⟩ F H (wipe σ ix) (blkR ix ρ) where
  len := by unfold blkR; rw [wipe_length, wipeR_length, List.length_map]; exact I.len
  f0 := Ext.rfl'
  fh := I.fh
  fr := fun p o h _ _ => h
  al := fun p o h => ⟨o, h⟩
  n0 := fun p o _ h => h
  sl := fun j s hs => by
    rcases blkR_get hs with ⟨h1, h2⟩ | ⟨h1, s0, h2, h3⟩
    · subst h1
      have hj : j < (wipe σ ix).length := by rw [wipe_length, I.len]; exact h2
      exact ⟨_, List.getElem?_eq_getElem hj, by cases (wipe σ ix)[j] <;> trivial⟩
    · obtain ⟨ov, g1, g2⟩ := I.sl j s0 h2
      refine ⟨ov, by rw [wipe_get, if_neg h1]; exact g1, ?_⟩
      subst h3
      cases s0 with
      | no => cases ov <;> trivial
      | val d =>
        cases ov with
        | none => exact g2
        | some v => exact g2
      | lam g0 =>
        cases ov with
        | none => exact g2
        | some v => exact g2
      | slf k fs => cases ov <;> trivial
      | dic b k fs => cases ov <;> trivial
      | own xs =>
        cases ov with
        | none => exact g2
        | some v =>
          obtain ⟨p, e, a1, a2, vs, a3, a4⟩ := g2
          exact ⟨p, e, mem_mutA.mpr ⟨j, xs, .inl h2, by rw [g1, e]⟩, a2, vs, a3, a4⟩
      | bor xs =>
        cases ov with
        | none => exact g2
        | some v =>
          obtain ⟨p, e, a1, a2, vs, a3, a4⟩ := g2
          exact ⟨p, e, mem_mutA.mpr ⟨j, xs, .inr h2, by rw [g1, e]⟩, a2, vs, a3, a4⟩
  ap := fun i j s t p q hi hj ms mt hp hq e => by
    rcases blkR_get hi with ⟨h1, _⟩ | ⟨h1, s0, h2, h3⟩
    · subst h1; cases ms
    · rcases blkR_get hj with ⟨h1', _⟩ | ⟨h1', t0, h2', h3'⟩
      · subst h1'; cases mt
      · rw [wipe_get, if_neg h1] at hp
        rw [wipe_get, if_neg h1'] at hq
        subst h3 h3'
        refine I.ap i j s0 t0 p q h2 h2' ?_ ?_ hp hq e
        · cases s0 <;> first | rfl | cases ms
        · cases t0 <;> first | rfl | cases mt
  hb := fun p hp => by
    obtain ⟨i, xs, h1, h2⟩ := mem_mutA.mp hp
    have : conM ρ i = some xs := by unfold conM; rcases h1 with h1 | h1 <;> rw [h1]
    obtain ⟨p', vs, g1, g2, _⟩ := I.own this
    rw [h2] at g1; cases g1
    exact ⟨_, g2⟩
  tb := I.tb
theorem restore_get : ∀ {ρ ρ' r : Rho} {i : Nat} {s : Sl}, restore ρ ρ' = some r → r[i]? = some s →
    ∃ s0, ρ[i]? = some s0 ∧ ((s = s0 ∧ (∀ xs, s0 ≠ .own xs ∧ s0 ≠ .bor xs)) ∨ ∃ xs ys, ρ'[i]? = some (.bor ys) ∧ ((s0 = .own xs ∧ s = .own ys) ∨ (s0 = .bor xs ∧ s = .bor ys)))
  | [], [], r, i, s, h, hs => by unfold restore at h; cases h; simp at hs
  | [], _ :: _, _, _, _, h, _ => by simp [restore] at h
  | s0 :: ρ, [], _, _, _, h, _ => by cases s0 <;> simp [restore] at h
  | s0 :: ρ, s1 :: ρ', r, i, s, h, hs => by
    have go : ∀ (x : Sl), (restore ρ ρ').map (x :: ·) = some r → ((x = s0 ∧ (∀ xs, s0 ≠ .own xs ∧ s0 ≠ .bor xs)) ∨ ∃ xs ys, s1 = .bor ys ∧ ((s0 = .own xs ∧ x = .own ys) ∨ (s0 = .bor xs ∧ x = .bor ys))) →
        ∃ s2, (s0 :: ρ)[i]? = some s2 ∧ ((s = s2 ∧ (∀ xs, s2 ≠ .own xs ∧ s2 ≠ .bor xs)) ∨ ∃ xs ys, (s1 :: ρ')[i]? = some (.bor ys) ∧ ((s2 = .own xs ∧ s = .own ys) ∨ (s2 = .bor xs ∧ s = .bor ys))) := fun x hx hq => by
      cases e : restore ρ ρ' with
      | none => rw [e] at hx; cases hx
      | some r0 =>
        rw [e] at hx; cases hx
        cases i with
        | zero =>
          simp at hs; subst hs
          refine ⟨s0, rfl, ?_⟩
          rcases hq with hq | ⟨xs, ys, h1, h2⟩
          · exact .inl hq
          · exact .inr ⟨xs, ys, by subst h1; rfl, h2⟩
        | succ i => simpa using restore_get e (by simpa using hs)
    cases s0 with
    | own xs =>
      cases s1 with
      | bor ys => exact go (.own ys) (by simpa [restore] using h) (.inr ⟨xs, ys, rfl, .inl ⟨rfl, rfl⟩⟩)
      | _ => simp [restore] at h
    | bor xs =>
      cases s1 with
      | bor ys => exact go (.bor ys) (by simpa [restore] using h) (.inr ⟨xs, ys, rfl, .inr ⟨rfl, rfl⟩⟩)
      | _ => simp [restore] at h
    | no => exact go .no (by cases s1 <;> simpa [restore] using h) (.inl ⟨rfl, fun xs => ⟨nofun, nofun⟩⟩)
    | val d => exact go (.val d) (by cases s1 <;> simpa [restore] using h) (.inl ⟨rfl, fun xs => ⟨nofun, nofun⟩⟩)
    | lam g0 => exact go (.lam g0) (by cases s1 <;> simpa [restore] using h) (.inl ⟨rfl, fun xs => ⟨nofun, nofun⟩⟩)
    | slf k fs => exact go (.slf k fs) (by cases s1 <;> simpa [restore] using h) (.inl ⟨rfl, fun xs => ⟨nofun, nofun⟩⟩)
    | dic b k fs => exact go (.dic b k fs) (by cases s1 <;> simpa [restore] using h) (.inl ⟨rfl, fun xs => ⟨nofun, nofun⟩⟩)
theorem restore_len : ∀ {ρ ρ' r : Rho}, restore ρ ρ' = some r → r.length = ρ.length
  | [], [], r, h => by unfold restore at h; cases h; rfl
  | [], _ :: _, _, h => by simp [restore] at h
  | s0 :: ρ, [], _, h => by cases s0 <;> simp [restore] at h
  | s0 :: ρ, s1 :: ρ', r, h => by
    have go : ∀ (x : Sl), (restore ρ ρ').map (x :: ·) = some r → r.length = (s0 :: ρ).length := fun x hx => by
      cases e : restore ρ ρ' with
      | none => rw [e] at hx; cases hx
      | some r0 => rw [e] at hx; cases hx; simp [restore_len e]
    cases s0 with
    | own xs =>
      cases s1 with
      | bor ys => exact go (.own ys) (by simpa [restore] using h)
      | _ => simp [restore] at h
    | bor xs =>
      cases s1 with
      | bor ys => exact go (.bor ys) (by simpa [restore] using h)
      | _ => simp [restore] at h
    | no => exact go .no (by cases s1 <;> simpa [restore] using h)
    | val d => exact go (.val d) (by cases s1 <;> simpa [restore] using h)
    | lam g0 => exact go (.lam g0) (by cases s1 <;> simpa [restore] using h)
    | slf k fs => exact go (.slf k fs) (by cases s1 <;> simpa [restore] using h)
    | dic b k fs => exact go (.dic b k fs) (by cases s1 <;> simpa [restore] using h)
theorem Ok.leave {F H F' H' : Hp} {σ σ' : L2.St} {ρ ρ' r : Rho} {ix : List Nat} (I : Ok c F H σ ρ) (J : Ok ⟨c.G, F, H, mutA σ ρ⟩ F' H' σ' ρ') (hw : wipe σ' ix = wipe σ ix) (hr : restore ρ ρ' = some r)
    (hix : ∀ (i : Nat) (xs ys : List D), (ρ[i]? = some (.own xs) ∨ ρ[i]? = some (.bor xs)) → ρ'[i]? = some (.bor ys) → i ∉ ix) : Ok c F' H' σ r := by
  have notB : ∀ p o, c.H0 p = some o → p ∉ c.B → p ∉ mutA σ ρ := fun p o h1 h2 h3 => by
    obtain ⟨i, xs, g1, g2⟩ := mem_mutA.mp h3
    rcases g1 with g1 | g1
    · obtain ⟨ov, k1, k2⟩ := I.sl i _ g1
      rw [g2] at k1; cases k1
      obtain ⟨q, e, a1, _⟩ := k2
      cases e
      rw [h1] at a1; cases a1
    · obtain ⟨ov, k1, k2⟩ := I.sl i _ g1
      rw [g2] at k1; cases k1
      obtain ⟨q, e, a1, _⟩ := k2
      cases e
      exact h2 a1
  have notL : ∀ (j : Nat) (xs : List D) (q : Addr), (ρ[j]? = some (.own xs) ∨ ρ[j]? = some (.bor xs)) → σ[j]? = some (some (V.ref q)) → ∀ o, H q = some o → ¬ LamL o := fun j xs q k1 k2 o e => by
    have : conM ρ j = some xs := by unfold conM; rcases k1 with k1 | k1 <;> rw [k1]
    obtain ⟨p', us', g1, g2, _⟩ := I.own this
    rw [k2] at g1; cases g1
    rw [g2] at e
    cases e
    exact nl_lst
  refine ⟨by rw [restore_len hr]; exact I.len, I.f0.trans J.f0, J.fh, fun p o h1 h2 h3 => J.fr p o (I.fr p o h1 h2 h3) (notB p o h1 h2) h3, fun p o h1 => ?_, fun p o h1 h2 => ?_, fun i s hs => ?_, fun i j s t p q hi hj ms mt hp hq e => ?_, I.hb, J.tb⟩
  · obtain ⟨o', e⟩ := I.al p o h1
    exact J.al p o' e
  · obtain ⟨o', e⟩ := I.al p o h1
    exact J.n0 p o' e (I.n0 p o h1 h2)
  · obtain ⟨s0, h1, h2⟩ := restore_get hr hs
    obtain ⟨ov, g1, g2⟩ := I.sl i s0 h1
    refine ⟨ov, g1, ?_⟩
    have bor : ∀ xs ys, (ρ[i]? = some (.own xs) ∨ ρ[i]? = some (.bor xs)) → ρ'[i]? = some (.bor ys) → ∀ p, ov = some (V.ref p) → F' p = none ∧ ∃ vs, H' p = some (.lst vs) ∧ Reps c.G F' vs ys := fun xs ys hx hy p hp => by
      have hni := hix i xs ys hx hy
      obtain ⟨ov', k1, k2⟩ := J.sl i _ hy
      have e1 : σ'[i]? = σ[i]? := by
        have := congrArg (fun l => l[i]?) hw
        simp only [wipe_get, if_neg hni] at this
        exact this
      rw [e1, g1, hp] at k1
      cases k1
      obtain ⟨q, e, _, a2, vs, a3, a4⟩ := k2
      cases e
      exact ⟨a2, vs, a3, a4⟩
    rcases h2 with ⟨h2, h3⟩ | ⟨xs, ys, h2, ⟨h3, h4⟩ | ⟨h3, h4⟩⟩
    · subst h2
      cases s with
      | no => cases ov <;> trivial
      | val d =>
        cases ov with
        | none => exact g2
        | some v => exact Rep.ext J.f0 g2
      | lam g0 =>
        cases ov with
        | none => exact g2
        | some v => exact (let ⟨f1, z1, z2⟩ := g2; ⟨f1, z1, z2.move J.f0 fun q0 u0 e1 e2 => ⟨J.fr q0 u0 e1 (fun hm => by obtain ⟨j, xs, k1, k2⟩ := mem_mutA.mp hm; exact notL j xs q0 k1 k2 u0 e1 e2) e2.nt, fun e3 => J.n0 q0 u0 e1 e3⟩⟩)
      | own xs => exact absurd rfl (h3 xs).1
      | bor xs => exact absurd rfl (h3 xs).2
      | slf k fs =>
        cases ov with
        | none => exact g2
        | some v =>
          obtain ⟨p, e, a1, a2, dx, us, a3, a4, a5⟩ := g2
          have np : p ∉ mutA σ ρ := fun hm => by
            obtain ⟨j, xs, k1, k2⟩ := mem_mutA.mp hm
            have z : i = j := by
              rcases k1 with k1 | k1
              · exact I.ap i j _ _ p p h1 k1 rfl rfl (by rw [g1, e]) k2 rfl
              · exact I.ap i j _ _ p p h1 k1 rfl rfl (by rw [g1, e]) k2 rfl
            subst z
            rcases k1 with k1 | k1 <;> (rw [h1] at k1; cases k1)
          exact ⟨p, e, a1, J.n0 p _ a3 a2, dx, us, J.fr p _ a3 np nt_ins, a4, a5.ext J.f0⟩
      | dic b k fs =>
        cases ov with
        | none => exact g2
        | some v =>
          obtain ⟨p, e, a1, a2, us, a3, a5⟩ := g2
          have np : p ∉ mutA σ ρ := fun hm => by
            obtain ⟨j, xs, k1, k2⟩ := mem_mutA.mp hm
            have z : i = j := by
              rcases k1 with k1 | k1
              · exact I.ap i j _ _ p p h1 k1 rfl rfl (by rw [g1, e]) k2 rfl
              · exact I.ap i j _ _ p p h1 k1 rfl rfl (by rw [g1, e]) k2 rfl
            subst z
            rcases k1 with k1 | k1 <;> (rw [h1] at k1; cases k1)
          obtain ⟨o, a4⟩ := DicAt.ob a3
          exact ⟨p, e, a1, J.n0 p _ a4 a2, us, DicAt.keep J.f0 (fun o' z nt => J.fr p o' z np nt) a3, a5.ext J.f0⟩
    · subst h3 h4
      cases ov with
      | none => exact g2
      | some v =>
        obtain ⟨p, e, a1, _⟩ := g2
        obtain ⟨b1, b2⟩ := bor xs ys (.inl h1) h2 p (by rw [e])
        exact ⟨p, e, a1, b1, b2⟩
    · subst h3 h4
      cases ov with
      | none => exact g2
      | some v =>
        obtain ⟨p, e, a1, _⟩ := g2
        obtain ⟨b1, b2⟩ := bor xs ys (.inr h1) h2 p (by rw [e])
        exact ⟨p, e, a1, b1, b2⟩
  · have mu : ∀ (i : Nat) (s : Sl), r[i]? = some s → s.mut = true → ∃ s0, ρ[i]? = some s0 ∧ s0.mut = true := fun i s hs hm => by
      obtain ⟨s0, h1, h2⟩ := restore_get hr hs
      refine ⟨s0, h1, ?_⟩
      rcases h2 with ⟨h2, _⟩ | ⟨xs, ys, _, ⟨h3, _⟩ | ⟨h3, _⟩⟩
      · subst h2; exact hm
      · subst h3; rfl
      · subst h3; rfl
    obtain ⟨s0, k1, k2⟩ := mu i s hi ms
    obtain ⟨t0, k3, k4⟩ := mu j t hj mt
    exact I.ap i j s0 t0 p q k1 k3 k2 k4 hp hq e
theorem Ok.other {F H : Hp} {σ : L2.St} {ρ : Rho} {p : Addr} {us : List V} (I : Ok c F H σ ρ) (hp : H p = some (.lst us)) (hF : F p = none) (h0 : c.H0 p = none) (ap : p ∉ mutA σ ρ) (o : HO) : Ok c F (upd H p o) σ ρ := by
  have nF : ∀ q u, F q = some u → q ≠ p := fun q u e z => by subst z; rw [hF] at e; cases e
  have n0 : ∀ q u, c.H0 q = some u → q ≠ p := fun q u e z => by subst z; rw [h0] at e; cases e
  refine ⟨I.len, I.f0, fun q u e => by rw [upd_ne (nF q u e)]; exact I.fh q u e, fun q u e1 e2 e3 => by rw [upd_ne (n0 q u e1)]; exact I.fr q u e1 e2 e3, fun q u e => by rw [upd_ne (n0 q u e)]; exact I.al q u e, I.n0, fun i s hs => ?_, I.ap, I.hb, ⟨tabs_upd I.tb.t hp nt_lst nc_lst, I.tb.n⟩⟩
  obtain ⟨ov, h1, h2⟩ := I.sl i s hs
  refine ⟨ov, h1, ?_⟩
  cases s with
  | no => cases ov <;> trivial
  | val d => cases ov <;> exact h2
  | lam g0 =>
    cases ov with
    | none => exact h2
    | some v => exact let ⟨f1, z1, z2⟩ := h2; ⟨f1, z1, z2.move Ext.rfl' fun q0 u0 e1 e2 => ⟨by rw [upd_ne (fun z => by subst z; rw [hp] at e1; cases e1; exact nl_lst e2)]; exact e1, id⟩⟩
  | own xs =>
    cases ov with
    | none => exact h2
    | some v =>
      obtain ⟨q, e, a1, a2, vs, a3, a4⟩ := h2
      have : q ≠ p := fun z => ap (mem_mutA.mpr ⟨i, xs, .inl hs, by rw [h1, e, z]⟩)
      exact ⟨q, e, a1, a2, vs, by rw [upd_ne this]; exact a3, a4⟩
  | bor xs =>
    cases ov with
    | none => exact h2
    | some v =>
      obtain ⟨q, e, a1, a2, vs, a3, a4⟩ := h2
      have : q ≠ p := fun z => ap (mem_mutA.mpr ⟨i, xs, .inr hs, by rw [h1, e, z]⟩)
      exact ⟨q, e, a1, a2, vs, by rw [upd_ne this]; exact a3, a4⟩
  | slf k fs =>
    cases ov with
    | none => exact h2
    | some v =>
      obtain ⟨q, e, a1, a2, dx, vs, a3, a4, a5⟩ := h2
      have : q ≠ p := fun z => by subst z; rw [hp] at a3; cases a3
      exact ⟨q, e, a1, a2, dx, vs, by rw [upd_ne this]; exact a3, a4, a5⟩
  | dic b k fs =>
    cases ov with
    | none => exact h2
    | some v =>
      obtain ⟨q, e, a1, a2, vs, a3, a5⟩ := h2
      have : q ≠ p := fun z => by
        subst z
        cases b with
        | true => obtain ⟨xs, d⟩ := a3; have := d.at_; rw [hp] at this; unfold rawO at this; cases this
        | false => obtain ⟨kvs, d, _⟩ := a3; rw [hp] at d; cases d
      exact ⟨q, e, a1, a2, vs, DicAt.ext Ext.rfl' (fun o' z => by rw [upd_ne this]; exact z) a3, a5⟩
theorem Ok.seal {F H : Hp} {σ : L2.St} {ρ : Rho} {p : Addr} {us : List V} (I : Ok c F H σ ρ) (hp : H p = some (.lst us)) (hF : F p = none) (h0 : c.H0 p = none) (ap : p ∉ mutA σ ρ) : Ok c (upd F p (.lst us)) H σ ρ := by
  have ex : Ext F (upd F p (.lst us)) := Ext.upd hF
  refine ⟨I.len, I.f0.trans ex, fun q u e => ?_, I.fr, I.al, fun q u e1 e2 => ?_, fun i s hs => ?_, I.ap, I.hb, I.tb.seal hp nt_lst⟩
  · by_cases z : q = p
    · subst z; rw [upd_same] at e; cases e; exact hp
    · rw [upd_ne z] at e; exact I.fh q u e
  · have z : q ≠ p := fun z => by subst z; rw [h0] at e1; cases e1
    rw [upd_ne z]; exact I.n0 q u e1 e2
  obtain ⟨ov, h1, h2⟩ := I.sl i s hs
  refine ⟨ov, h1, ?_⟩
  cases s with
  | no => cases ov <;> trivial
  | val d =>
    cases ov with
    | none => exact h2
    | some v => exact Rep.ext ex h2
  | lam g0 =>
    cases ov with
    | none => exact h2
    | some v => exact (let ⟨f1, z1, z2⟩ := h2; ⟨f1, z1, z2.move ex fun q0 u0 e1 e2 => ⟨e1, fun e3 => by rw [upd_ne (fun z => by subst z; rw [hp] at e1; cases e1; exact nl_lst e2)]; exact e3⟩⟩)
  | own xs =>
    cases ov with
    | none => exact h2
    | some v =>
      obtain ⟨q, e, a1, a2, vs, a3, a4⟩ := h2
      have : q ≠ p := fun z => ap (mem_mutA.mpr ⟨i, xs, .inl hs, by rw [h1, e, z]⟩)
      exact ⟨q, e, a1, by rw [upd_ne this]; exact a2, vs, a3, a4.ext ex⟩
  | bor xs =>
    cases ov with
    | none => exact h2
    | some v =>
      obtain ⟨q, e, a1, a2, vs, a3, a4⟩ := h2
      have : q ≠ p := fun z => ap (mem_mutA.mpr ⟨i, xs, .inr hs, by rw [h1, e, z]⟩)
      exact ⟨q, e, a1, by rw [upd_ne this]; exact a2, vs, a3, a4.ext ex⟩
  | slf k fs =>
    cases ov with
    | none => exact h2
    | some v =>
      obtain ⟨q, e, a1, a2, dx, vs, a3, a4, a5⟩ := h2
      have : q ≠ p := fun z => by subst z; rw [hp] at a3; cases a3
      exact ⟨q, e, a1, by rw [upd_ne this]; exact a2, dx, vs, a3, a4, a5.ext ex⟩
  | dic b k fs =>
    cases ov with
    | none => exact h2
    | some v =>
      obtain ⟨q, e, a1, a2, vs, a3, a5⟩ := h2
      have : q ≠ p := fun z => by
        subst z
        cases b with
        | true => obtain ⟨xs, d⟩ := a3; have := d.at_; rw [hp] at this; unfold rawO at this; cases this
        | false => obtain ⟨kvs, d, _⟩ := a3; rw [hp] at d; cases d
      exact ⟨q, e, a1, by rw [upd_ne this]; exact a2, vs, DicAt.ext ex (fun _ z => z) a3, a5.ext ex⟩
end
end VS

set_option Elab.async false
set_option linter.all false
set_option maxRecDepth 100000
set_option maxHeartbeats 4000000
namespace VS
open PySem PySem.Spec PyProof.Rows L2

def vtX (G : Gx) (s : SE) : TE := fun σ H Q => ∃ F0 H0 B, vt ⟨G, F0, H0, B⟩ s σ H Q
def vbX (G : Gx) (s : SB) : TT := fun σ H Q => ∃ F0 H0 B, vb ⟨G, F0, H0, B⟩ s σ H Q
theorem pe_X {X : Cx} {G : Gx} {e : Expr} {s : SE} (h : ∀ F0 H0 B, PE X e (vt ⟨G, F0, H0, B⟩ s)) : PE X e (vtX G s) :=
  ⟨fun pins sh σ H Q I ⟨F0, H0, B, q⟩ => (h F0 H0 B).run pins sh σ H Q I q⟩
theorem pts_X {X : Cx} {G : Gx} {e : List Expr} {s : SB} (h : ∀ F0 H0 B, PTs X e (vb ⟨G, F0, H0, B⟩ s)) : PTs X e (vbX G s) :=
  ⟨fun pins sh σ H Q I ⟨F0, H0, B, q⟩ => (h F0 H0 B).run pins sh σ H Q I q⟩
theorem vts_nil {X : Cx} {c : Ctx} : PTs X [] (vb c bYes) := ⟨fun pins sh σ H Q I ⟨F, ρ, I', b, ρ', e, q⟩ => by
  cases e
  exact pts_nil.run pins sh σ H Q I (q H F Ext.rfl' I')⟩
theorem vts_one {X : Cx} {c : Ctx} {e : Expr} {s : SB} (h : PT X e (vb c s)) : PTs X [e] (vb c s) := pts_one h
theorem comp_w {c : Ctx} {K : PySem.W.Frag} {it : SI} {t : Tg} {tt : SB} {e : SE} (σ : L2.St) (H : Hp) (Q : VK) (h : vt c (sComp it t tt e) σ H Q) : tLc (vi c it) (gT K t) (vbX c.G tt) (vtX c.G e) t.ix σ H Q := by
  obtain ⟨F, ρ, I, d, ρ', hs, q⟩ := h
  unfold sComp at hs
  split at hs
  · rename_i ds ρ1 e1
    split at hs
    · rename_i out ρ2 e2
      split at hs
      · rename_i hlen
        cases hs
        refine ⟨F, ρ, I, ds, ρ1, e1, fun J H1 F1 x1 I1 y D hD => ?_⟩
        have I1' := I1.grow (Grow.raw (o := .lst []) I1.fh hD)
        have hDF : F1 D = none := ext_none I1.fh hD
        have hD0 : c.H0 D = none := by
          cases z : c.H0 D with
          | none => rfl
          | some o => obtain ⟨o', z'⟩ := I1.al D o z; rw [hD] at z'; cases z'
        have apart : ∀ p, p ∈ mutA σ ρ1 → p ≠ D := fun p hp z => by
          obtain ⟨i, xs, k1, k2⟩ := mem_mutA.mp hp
          have : conM ρ1 i = some xs := by unfold conM; rcases k1 with k1 | k1 <;> rw [k1]
          obtain ⟨p', vs, g1, g2, _⟩ := I1.own this
          rw [k2] at g1; cases g1
          rw [z, hD] at g2; cases g2
        refine ⟨fun i m H => m = ds.length - i ∧ i ≤ ds.length ∧ ∃ F2 ρ2' acc av rest, Ok c F2 H σ ρ2' ∧ Ext F1 F2 ∧ H D = some (.lst av) ∧ F2 D = none ∧ Reps c.G F2 av acc ∧ cLoop t tt e (ds.drop i) ρ2' = some (rest, ρ') ∧ acc ++ rest = out ∧ (∀ p, p ∈ mutA σ ρ2' → p ≠ D),
          ⟨ds.length, by simp, Nat.zero_le _, F1, ρ1, [], [], out, I1', Ext.rfl', upd_same, hDF, .nil, e2, rfl, apart⟩, ?_⟩
        rintro i m H2 ⟨rfl, hi, F2, ρ3, acc, av, rest, I2, x2, hD2, hF2, r2, l2, ho, ap2⟩
        obtain ⟨y1, y2⟩ := y F2 H2 x2 I2.fh
        by_cases hlt : i < ds.length
        · rw [List.drop_eq_getElem_cons hlt] at l2
          obtain ⟨g1, g2⟩ := y1 i ds[i] (by simp [hlt])
          refine .inr ⟨g1, fun H => i + 1 ≤ ds.length ∧ ∃ F2 ρ2' acc av rest, Ok c F2 H σ ρ2' ∧ Ext F1 F2 ∧ H D = some (.lst av) ∧ F2 D = none ∧ Reps c.G F2 av acc ∧ cLoop t tt e (ds.drop (i + 1)) ρ2' = some (rest, ρ') ∧ acc ++ rest = out ∧ (∀ p, p ∈ mutA σ ρ2' → p ≠ D), fun H' ⟨h1, h2⟩ => ⟨ds.length - (i + 1), by omega, rfl, h1, h2⟩, fun x H' yy => ?_⟩
          obtain ⟨F3, g3, r3⟩ := g2 x H' yy
          have I3 := I2.grow g3
          have J3 := I3.enter t.ix
          have hD3 : H' D = some (.lst av) := g3.h _ _ hD2
          have hF3 : F3 D = none := g3.n _ _ hD2 hF2
          have nD : D ∉ mutA σ ρ3 := fun z => ap2 D z rfl
          -- the turn's own semantics
          unfold cLoop at l2
          have turn : okT t.ix ρ3 = true ∧ ∃ ρ4 b ρ5, tgt t ds[i] (blkR t.ix ρ3) = some ρ4 ∧ tt ρ4 = some (b, ρ5) ∧ ((b = true ∧ ∃ x ρ6 r xs, e ρ5 = some (x, ρ6) ∧ restore ρ3 ρ6 = some r ∧ cLoop t tt e (ds.drop (i + 1)) r = some (xs, ρ') ∧ rest = x :: xs) ∨
              (b = false ∧ ∃ r, restore ρ3 ρ5 = some r ∧ cLoop t tt e (ds.drop (i + 1)) r = some (rest, ρ'))) := by
            unfold turnC at l2
            by_cases k0 : okT t.ix ρ3 = true
            case neg => rw [if_neg k0] at l2; cases l2
            rw [if_pos k0] at l2
            refine ⟨k0, ?_⟩
            cases k1 : tgt t ds[i] (blkR t.ix ρ3) with
            | none => rw [k1] at l2; cases l2
            | some ρ4 =>
              rw [k1] at l2
              dsimp only at l2
              cases k2 : tt ρ4 with
              | none => rw [k2] at l2; cases l2
              | some p2 =>
                obtain ⟨b, ρ5⟩ := p2
                rw [k2] at l2
                refine ⟨ρ4, b, ρ5, rfl, k2, ?_⟩
                cases b with
                | true =>
                  dsimp only at l2
                  cases k3 : e ρ5 with
                  | none => rw [k3] at l2; cases l2
                  | some p3 =>
                    obtain ⟨x, ρ6⟩ := p3
                    rw [k3] at l2
                    dsimp only at l2
                    cases k4 : restore ρ3 ρ6 with
                    | none => rw [k4] at l2; cases l2
                    | some r =>
                      rw [k4] at l2
                      dsimp only [Option.map] at l2
                      cases k5 : cLoop t tt e (ds.drop (i + 1)) r with
                      | none => rw [k5] at l2; cases l2
                      | some p5 =>
                        obtain ⟨xs, ρ7⟩ := p5
                        rw [k5] at l2
                        cases l2
                        exact .inl ⟨rfl, x, ρ6, r, xs, rfl, k4, k5, rfl⟩
                | false =>
                  dsimp only at l2
                  cases k4 : restore ρ3 ρ5 with
                  | none => rw [k4] at l2; cases l2
                  | some r =>
                    rw [k4] at l2
                    exact .inr ⟨rfl, r, rfl, l2⟩
          obtain ⟨k0, ρ4, b, ρ5, k1, k2, k3⟩ := turn
          refine tgt_w J3 r3 k1 fun σ4 J4 w4 => ?_
          have hw : wipe σ4 t.ix = wipe σ t.ix := by
            rw [w4 t.ix fun _ z => z]
            apply List.ext_getElem?
            intro j
            rw [wipe_get, wipe_get, wipe_length]
            by_cases hj : j ∈ t.ix
            · simp [hj]
            · simp [hj]
          refine ⟨?_, F3, H', mutA σ ρ3, F3, ρ4, J4, b, ρ5, k2, fun H5 F5 x5 J5 => ?_⟩
          · exact hw
          -- where a slot of the block is one of ours it is none of the targets
          have nix : ∀ {ρz : Rho} {Fz Hz : Hp}, Ok ⟨c.G, F3, H', mutA σ ρ3⟩ Fz Hz σ4 ρz → ∀ (j : Nat) (xs ys : List VS.D), (ρ3[j]? = some (.own xs) ∨ ρ3[j]? = some (.bor xs)) → ρz[j]? = some (.bor ys) → j ∉ t.ix :=
            fun _ j xs ys hx _ => okT_no k0 hx
          have fin : ∀ {ρz r : Rho} {Fz Hz : Hp}, Ok ⟨c.G, F3, H', mutA σ ρ3⟩ Fz Hz σ4 ρz → restore ρ3 ρz = some r → Ok c Fz Hz σ r ∧ Hz D = some (.lst av) ∧ Fz D = none ∧ Ext F3 Fz ∧ (∀ p, p ∈ mutA σ r → p ≠ D) := fun {ρz r Fz Hz} Jz hr => by
            refine ⟨I3.leave Jz hw hr (nix Jz), Jz.fr _ _ hD3 nD nt_lst, Jz.n0 _ _ hD3 hF3, Jz.f0, fun p hp => ?_⟩
            obtain ⟨j, xs, m1, m2⟩ := mem_mutA.mp hp
            refine ap2 p (mem_mutA.mpr ?_)
            rcases m1 with m1 | m1
            · obtain ⟨s0, z1, z2⟩ := restore_get hr m1
              rcases z2 with ⟨z2, z3⟩ | ⟨zs, ys, _, ⟨z3, _⟩ | ⟨_, z4⟩⟩
              · exact absurd z2.symm (z3 _).1
              · exact ⟨j, zs, .inl (by rw [z1, z3]), m2⟩
              · cases z4
            · obtain ⟨s0, z1, z2⟩ := restore_get hr m1
              rcases z2 with ⟨z2, z3⟩ | ⟨zs, ys, _, ⟨_, z4⟩ | ⟨z3, _⟩⟩
              · exact absurd z2.symm (z3 _).2
              · cases z4
              · exact ⟨j, zs, .inr (by rw [z1, z3]), m2⟩
          rcases k3 with ⟨rfl, x, ρ6, r, xs, j1, j2, j3, j4⟩ | ⟨rfl, r, j2, j3⟩
          · refine iteT ⟨F3, H', mutA σ ρ3, F5, ρ5, J5, x, ρ6, j1, fun v H6 F6 x6 J6 r6 => ?_⟩
            obtain ⟨I6, hD6, hF6, x36, ap6⟩ := fin J6 j2
            have ra : Reps c.G F6 av acc := (r2.ext g3.f).ext x36
            have hz : av.length < sizeLine := by
              rw [ra.length]
              have : acc.length < out.length := by rw [← ho, j4]; simp
              have := ln_fit hlen
              omega
            refine ⟨av, hD6, hz, hlt, F6, r, acc ++ [x], av ++ [v], xs, ?_, (x2.trans g3.f).trans x36, upd_same, hF6, ra.append (.one r6), j3, by rw [← ho, j4]; simp, ap6⟩
            exact I6.other hD6 hF6 hD0 (fun z => ap6 _ z rfl) _
          · refine iteF ?_
            obtain ⟨I5, hD5, hF5, x35, ap5⟩ := fin J5 j2
            exact ⟨hlt, F5, r, acc, av, rest, I5, (x2.trans g3.f).trans x35, hD5, hF5, (r2.ext g3.f).ext x35, j3, ho, ap5⟩
        · have hi' : i = ds.length := by omega
          subst hi'
          rw [List.drop_length] at l2
          unfold cLoop at l2
          cases l2
          rw [List.append_nil] at ho
          subst ho
          refine .inl ⟨y2, ?_⟩
          exact q _ H2 _ ((x1.trans x2).trans (Ext.upd hF2)) (I2.seal hD2 hF2 hD0 fun z => ap2 _ z rfl) (.lst upd_same (r2.ext (Ext.upd hF2)))
      · cases hs
    · cases hs
  · cases hs
section
variable {c : Ctx} {X : Cx}
theorem ve_lc {elt tg iter : Expr} {ifs : List Expr} {scope : Scope} {own : List (Str × Nat)} {pos : Pos} {it : SI} {tt : SB} {e : SE} (t : Tg) (hc : X.calm = true) (hN : X.N.Nodup) (hi : PI X tg iter (vi c it)) (ok : BlkOk X.N X.env.scope scope own) (hix : own.map (·.2) = t.ix)
    (hg : ∀ (s : Shared) (H : Hp) (C : Addr) (cl : List (Str × Addr)) (fp : List Addr), PG (X.blk s H scope (compEnvC scope cl C X.env) fp) tg (gT X.K t))
    (ht : ∀ (s : Shared) (H : Hp) (C : Addr) (cl : List (Str × Addr)) (fp : List Addr) (F0 H0 : Hp) (B : List Addr), PTs (X.blk s H scope (compEnvC scope cl C X.env) fp) ifs (vb ⟨c.G, F0, H0, B⟩ tt))
    (he : ∀ (s : Shared) (H : Hp) (C : Addr) (cl : List (Str × Addr)) (fp : List Addr) (F0 H0 : Hp) (B : List Addr), PE (X.blk s H scope (compEnvC scope cl C X.env) fp) elt (vt ⟨c.G, F0, H0, B⟩ e))
    (hs : ∀ x, foldedSetIterable iter X.env x = pure x := by intro _; rfl) : PE X (.ListComp elt [⟨tg, iter, ifs, 0⟩] scope pos) (vt c (sComp it t tt e)) :=
  pe_of (pe_lc hc hN hi ok hg (fun s H C cl fp => pts_X (ht s H C cl fp)) (fun s H C cl fp => pe_X (he s H C cl fp)) hs) fun σ H Q q => by
    rw [hix]
    exact comp_w σ H Q q
end
end VS

set_option Elab.async false
set_option linter.all false
set_option maxRecDepth 100000
set_option maxHeartbeats 4000000
namespace VS
open PySem PySem.Spec PyProof.Rows L2

def kApp (i : Nat) (e : SE) : SS := fun ρ => match conM ρ i with
  | none => none
  | some _ => match e ρ with
    | some (d, ρ1) => match conM ρ1 i with
      | some xs => if xs.length < LN then some (.nx, setM ρ1 i (xs ++ [d])) else none
      | none => none
    | none => none
def kPut (i : Nat) (k e : SE) : SS := fun ρ => match e ρ with
  | some (d, ρ1) => match conM ρ1 i with
    | none => none
    | some _ => match k ρ1 with
      | some (.int j, ρ2) => match conM ρ2 i with
        | some xs => match ixN xs.length j with
          | some n => some (.nx, setM ρ2 i (xs.set n d))
          | none => none
        | none => none
      | _ => none
  | none => none
section
variable {c : Ctx} {X : Cx}
theorem Ok.freshS {F H : Hp} {σ : L2.St} {ρ : Rho} {p : Addr} {o : HO} {s0 : Sl} (I : Ok c F H σ ρ) (hp : H p = none) (i : Nat) (ok : c.H0 p = none → F p = none → SlOk c F (upd H p o) (some (V.ref p)) s0) : Ok c F (upd H p o) (σ.set i (some (V.ref p))) (ρ.set i s0) := by
  have hF : F p = none := ext_none I.fh hp
  have h0 : c.H0 p = none := by
    cases z : c.H0 p with
    | none => rfl
    | some o => obtain ⟨o', z'⟩ := I.al p o z; rw [hp] at z'; cases z'
  have J := I.grow (Grow.raw (o := o) I.fh hp)
  have ap : ∀ (j : Nat) (s : Sl) (q : Addr), ρ[j]? = some s → s.mut = true → σ[j]? = some (some (V.ref q)) → q ≠ p := fun j s q hs hm hq z => by
    subst z
    obtain ⟨ov, h1, h2⟩ := I.sl j s hs
    rw [hq] at h1; cases h1
    cases s with
    | no => cases hm
    | val d => cases hm
    | lam g0 => cases hm
    | own ys => obtain ⟨q, e, _, _, vs, a3, _⟩ := h2; cases e; rw [hp] at a3; cases a3
    | bor ys => obtain ⟨q, e, _, _, vs, a3, _⟩ := h2; cases e; rw [hp] at a3; cases a3
    | slf k ys => obtain ⟨q, e, _, _, dx, vs, a3, _⟩ := h2; cases e; rw [hp] at a3; cases a3
    | dic b k ys => obtain ⟨q, e, _, _, vs, a3, _⟩ := h2; cases e; obtain ⟨o, a4⟩ := DicAt.ob a3; rw [hp] at a4; cases a4
  refine ⟨by rw [List.length_set, List.length_set]; exact I.len, J.f0, J.fh, J.fr, J.al, J.n0, fun j s hs => ?_, fun a b s t pa qb ha hb ms mt hpa hqb e => ?_, J.hb, J.tb⟩
  · by_cases hj : i = j
    · subst hj
      have hi : i < ρ.length := by
        have := (List.getElem?_eq_some_iff.mp hs).1
        rwa [List.length_set] at this
      rw [List.getElem?_set_self hi] at hs
      cases hs
      exact ⟨some (V.ref p), by rw [List.getElem?_set_self (by rw [I.len]; exact hi)], ok h0 hF⟩
    · rw [List.getElem?_set_ne hj] at hs
      obtain ⟨ov, h1, h2⟩ := J.sl j s hs
      exact ⟨ov, by rw [List.getElem?_set_ne hj]; exact h1, h2⟩
  · by_cases ia : i = a
    · by_cases ib : i = b
      · exact ia.symm.trans ib
      · subst ia
        have hl : i < σ.length := by
          have := (List.getElem?_eq_some_iff.mp hpa).1
          rwa [List.length_set] at this
        rw [List.getElem?_set_self hl] at hpa
        cases hpa
        rw [List.getElem?_set_ne ib] at hb hqb
        exact absurd e.symm (ap b t qb hb mt hqb)
    · rw [List.getElem?_set_ne ia] at ha hpa
      by_cases ib : i = b
      · subst ib
        have hl : i < σ.length := by
          have := (List.getElem?_eq_some_iff.mp hqb).1
          rwa [List.length_set] at this
        rw [List.getElem?_set_self hl] at hqb
        cases hqb
        exact absurd e (ap a s pa ha ms hpa)
      · rw [List.getElem?_set_ne ib] at hb hqb
        exact I.ap a b s t pa qb ha hb ms mt hpa hqb e
theorem Ok.fresh {F H : Hp} {σ : L2.St} {ρ : Rho} {p : Addr} {us : List V} {xs : List D} (I : Ok c F H σ ρ) (hp : H p = none) (r : Reps c.G F us xs) (i : Nat) : Ok c F (upd H p (.lst us)) (σ.set i (some (V.ref p))) (ρ.set i (.own xs)) :=
  I.freshS hp i fun h0 hF => ⟨p, rfl, h0, hF, us, upd_same, r⟩
theorem Ok.changed {F H : Hp} {σ : L2.St} {ρ : Rho} {i : Nat} {xs ys : List D} {p : Addr} {us ws : List V} (I : Ok c F H σ ρ) (hx : conM ρ i = some xs) (hσ : σ[i]? = some (some (V.ref p))) (hp : H p = some (.lst us)) (hF : F p = none) (r : Reps c.G F ws ys) :
    Ok c F (upd H p (.lst ws)) σ (setM ρ i ys) := by
  refine I.lent hx hσ ⟨Ext.rfl', fun q o e => ?_, fun q o e n _ => ?_, fun q o e => ?_, fun q o _ n => n, fun tb => ⟨tabs_upd tb.t hp nt_lst nc_lst, tb.n⟩⟩ hF upd_same r
  · have : q ≠ p := fun z => by subst z; rw [hF] at e; cases e
    rw [upd_ne this]; exact I.fh q o e
  · have : q ≠ p := fun z => n (by rw [z]; exact List.mem_singleton.mpr rfl)
    rw [upd_ne this]; exact e
  · by_cases z : q = p
    · subst z; exact ⟨_, upd_same⟩
    · exact ⟨o, by rw [upd_ne z]; exact e⟩
theorem vs_app {i : Nat} {x : Str} {e : Expr} {s : SE} {p0 apos cpos pos : Pos} (h : PE X (.Name x p0) (tVar i)) (he : PE X e (vt c s))
    (hbase : attributeBase (.Name x p0) "append" X.env (eval (.Name x p0) X.env) = eval (.Name x p0) X.env := by rfl)
    (hfew : ((backTo cpos (starEach [e] X.env)).all (fun x => !x.1) && (backToKw cpos (keywordEach [] X.env)).all (fun x => x.1.isSome)
      && decide ([e].length + ([] : List Keyword).length + (if ([] : List Keyword).isEmpty then 0 else 1) < 30)) = true := by rfl)
    (hline : (apos.endLine == cpos.line) = true := by rfl) (hst : starEach [e] X.env = (false, eval e X.env) :: starEach [] X.env := by rfl) (hpl : (backTo cpos (starEach [] X.env)).any (·.1) = false := by rfl)
    (hs : swapsWith (.Call (.Attribute (.Name x p0) "append" apos) [e] [] cpos) none pos.line X.env = pure false := by rfl) :
    PS X (.Expr (.Call (.Attribute (.Name x p0) "append" apos) [e] [] cpos) pos) (vs c (kApp i s)) :=
  ps_of (ps_expr (pe_bm PySem.F.plainAttrs_list PySem.F.slot_list_append PySem.F.type_list_append (id := "list.append") (fun pins s σ H x xs v us Q I rx rv q => mt_append pins s σ H x xs v us Q I rx rv q) h (pa_cons he pa_nil hst) hbase hfew hline hst hpl) hs) fun σ H E ⟨F, ρ, I, fl, ρ', e, q⟩ => by
    unfold kApp at e
    split at e
    · cases e
    · rename_i xs0 e0
      obtain ⟨p, us0, g1, g2, _⟩ := I.own e0
      split at e
      · rename_i d ρ1 e1
        split at e
        · rename_i xs e2
          split at e
          · rename_i hl
            cases e
            refine ⟨_, g1, .inl ⟨rfl, _, .of g2⟩, F, ρ, I, d, ρ1, e1, fun v H1 F1 x1 I1 r1 => ?_⟩
            obtain ⟨p', us, k1, k2, k3, k4⟩ := I1.own e2
            rw [g1] at k1; cases k1
            refine ⟨_, us, v, rfl, rfl, k2, by rw [k4.length]; exact Nat.lt_of_lt_of_le hl (ln_fit (Nat.le_refl _)), ?_⟩
            exact q _ _ _ x1 (I1.changed e2 g1 k2 k3 (k4.append (.one r1)))
          · cases e
        · cases e
      · cases e
theorem Reps.setAt {G : Gx} {F : Hp} {vs : List V} {ds : List D} {v : V} {d : D} (r : Reps G F vs ds) (h : Rep G F v d) (n : Nat) : Reps G F (vs.set n v) (ds.set n d) := Reps.set h n r
theorem vs_put {i : Nat} {x : Str} {k e : Expr} {sk s : SE} {p0 tpos pos : Pos} (h : PE X (.Name x p0) (tVar i)) (hk : PE X k (vt c sk)) (he : PE X e (vt c s))
    (ha : ∀ v, assign (.Subscript (.Name x p0) k tpos) X.env v = (do
      let ov ← holding [v] (eval (.Name x p0) X.env)
      let iv ← holding [v, ov] (eval k X.env)
      standAt tpos
      holding [v, ov, iv] (setItem ov iv v)
      release [v, ov, iv] []) := by intro _; rfl)
    (hs : swapsWithSole [.Subscript (.Name x p0) k tpos] e pos.line X.env = pure false := by rfl) (hw : swappedStores [.Subscript (.Name x p0) k tpos] e X.env = pure none := by rfl)
    (h1 : (assignEach [.Subscript (.Name x p0) k tpos] X.env).map (·.2) = [assign (.Subscript (.Name x p0) k tpos) X.env] := by rfl) :
    PS X (.Assign [.Subscript (.Name x p0) k tpos] e pos) (vs c (kPut i sk s)) :=
  ps_of (ps_asg he (pg_sub h hk set_list ha) hs hw h1) fun σ H E ⟨F, ρ, I, fl, ρ', e, q⟩ => by
    unfold kPut at e
    split at e
    · rename_i d ρ1 e1
      split at e
      · cases e
      · rename_i xs0 e0
        split at e
        · rename_i j ρ2 e2
          split at e
          · rename_i xs e3
            split at e
            · rename_i n e4
              cases e
              refine ⟨F, ρ, I, d, ρ1, e1, fun v H1 F1 x1 I1 r1 => ?_⟩
              obtain ⟨p, us0, g1, g2, _⟩ := I1.own e0
              refine ⟨_, g1, F1, ρ1, I1, _, ρ2, e2, fun w H2 F2 x2 I2 r2 => ?_⟩
              cases r2
              obtain ⟨p', us, k1, k2, k3, k4⟩ := I2.own e3
              rw [g1] at k1; cases k1
              refine ⟨_, us, j, n, rfl, rfl, k2, by rw [k4.length]; exact e4, ?_⟩
              exact q _ _ _ (x1.trans x2) (I2.changed e3 g1 k2 k3 (k4.setAt (r1.ext x2) n))
            · cases e
          · cases e
        · cases e
    · cases e
def kTup (is : List Nat) (e : SE) : SS := fun ρ => match e ρ with
  | some (.tup ds, ρ1) => match sets is ds ρ1 with
    | some ρ2 => some (.nx, ρ2)
    | none => none
  | _ => none
theorem vs_tup {es : List Expr} {k : Nat} {e : Expr} {s : SE} {tpos pos : Pos} (is : List Nat) (he : PE X e (vt c s)) (hg : PG X (.Tuple es k tpos) (gT X.K (.tp is)))
    (hs : swapsWithSole [.Tuple es k tpos] e pos.line X.env = pure false := by rfl) (hw : swappedStores [.Tuple es k tpos] e X.env = pure none := by rfl) (h1 : (assignEach [.Tuple es k tpos] X.env).map (·.2) = [assign (.Tuple es k tpos) X.env] := by rfl) :
    PS X (.Assign [.Tuple es k tpos] e pos) (vs c (kTup is s)) :=
  ps_of (ps_asg he hg hs hw h1) fun σ H E ⟨F, ρ, I, fl, ρ', e, q⟩ => by
    unfold kTup at e
    split at e
    · rename_i ds ρ1 e1
      split at e
      · rename_i ρ2 e2
        cases e
        exact ⟨F, ρ, I, _, ρ1, e1, fun v H1 F1 x1 I1 r1 => tgt_w (t := .tp is) I1 r1 e2 fun σ' I' _ => q _ _ _ x1 I'⟩
      · cases e
    · cases e
def kPar (is : List Nat) (a : SA) : SS := fun ρ => match a ρ with
  | some (ds, ρ1) => match sets is ds ρ1 with
    | some ρ2 => some (.nx, ρ2)
    | none => none
  | none => none
theorem vs_par2 {i j : Nat} {x y : Str} {a b : Expr} {sa : SA} {px py pt pos : Pos} {kt k2 pt2} (hc : X.calm = true) (hN : X.N.Nodup) (ha : PA X [a, b] (va c sa)) (hw : swappedStores [.Tuple [.Name x px, .Name y py] kt pt] (.Tuple [a, b] k2 pt2) X.env = pure (some [x, y]))
    (hi : X.N[i]? = some x := by rfl) (hj : X.N[j]? = some y := by rfl) (hij : i ≠ j := by decide)
    (hx : X.env.scope.names.lookup x = some .local := by rfl) (hy : X.env.scope.names.lookup y = some .local := by rfl)
    (hs : swapsWithSole [.Tuple [.Name x px, .Name y py] kt pt] (.Tuple [a, b] k2 pt2) pos.line X.env = pure false := by rfl) :
    PS X (.Assign [.Tuple [.Name x px, .Name y py] kt pt] (.Tuple [a, b] k2 pt2) pos) (vs c (kPar [i, j] sa)) :=
  ps_of (ps_par hc hN hi hj hij hx hy ha hw hs) fun σ H E ⟨F, ρ, I, fl, ρ', e, q⟩ => by
    unfold kPar at e
    split at e
    · rename_i ds ρ1 e1
      split at e
      · rename_i ρ2 e2
        cases e
        refine ⟨F, ρ, I, ds, ρ1, e1, fun us H1 F1 x1 I1 r1 => ?_⟩
        have hl := sets_len e2
        match ds, hl, e2, r1 with
        | [d1, d2], _, e2, r1 =>
          obtain ⟨v, v', ev, r, r'⟩ := reps2 r1
          refine ⟨v, v', ev, ?_⟩
          simp only [sets] at e2
          cases e2
          exact q _ _ _ x1 ((I1.put i r).put j r')
      · cases e
    · cases e
end
end VS

set_option Elab.async false
set_option linter.all false
set_option maxRecDepth 100000
set_option maxHeartbeats 4000000
namespace VS
open PySem PySem.Spec PyProof.Rows L2

def kRetL (a : SA) : SS := fun ρ => match a ρ with
  | some (xs, ρ1) => if xs.length ≤ LN then some (.rm xs, ρ1) else none
  | none => none
abbrev MirM := List Sl → Option (List D)
def mirM (n : Nat) (s : SS) : MirM := fun sl => match s (sl ++ List.replicate (n - sl.length) .no) with
  | some (.rm xs, _) => some xs
  | _ => none
def spM (G : Gx) (n : Nat) (m : MirM) : Sp := fun vs H Q _ => ∃ F ds, Ext F H ∧ TbOk G.T F H ∧ Reps G F vs ds ∧ ds.length = n ∧ ∃ xs, m (ds.map .val) = some xs ∧
  ∀ p us H' F', Keep G.T [] F H F' H' → H p = none → F' p = none → H' p = some (.lst us) → Reps G F' us xs → Q (.ref p) H'
structure CalM (P : Program) (w : World) (G : Gx) (mg : Str → Option Value) (base : Heap) (x : Str) (k n : Nat) (m : MirM) : Prop where
  ex : ∃ (f : Addr) (fd : FuncData) (ps : List Str), mg x = some (.ref f) ∧ PySem.W.keepIn G.K (.ref f) = true ∧ Binds G.K fd ps [] ∧ FnOk P w G.K mg base CX0 k f fd ps (spM G n m)
theorem fn_okM {P : Program} {w : World} {G : Gx} {mg : Str → Option Value} {base : Heap} {x qual : Str} {st : Stmt} {f : Addr} {fd : FuncData} {N ps : List Str} {k : Nat} {s : SS} (F : Fun G.K x qual st f fd) (S : FnScope N ps (defScope st))
    (hb : ∀ (c : Ctx) (cdv : Value) (A : Around) (outer : List Env) (sh : Shared) (H : Hp) (E : XK), c.G = G → Room k (A.deeper (envOfC qual (defScope st) sh.heap.objs.size f cdv)) →
      PSs (cxOf CX0 P w G.K mg base N qual (defScope st) f cdv A outer sh H E).nox (defBody st) (vs c s)) :
    FnOk P w G.K mg base CX0 (k + 1) f fd ps (spM G ps.length (mirM N.length s)) := by
  refine F.ok S (fun us H Q E h => ?_) (fun cdv A outer sh H us Q E hr h => ?_)
  · obtain ⟨F0, ds, _, _, a, hn, _⟩ := h
    rw [a.length, hn]
  · obtain ⟨F0, ds, e, tb, a, hn, xs, hm, q⟩ := h
    refine ⟨vs ⟨G, F0, H, []⟩ s, hb _ cdv A outer sh H E rfl hr, ?_⟩
    unfold mirM at hm
    split at hm
    · rename_i xs' ρ h1
      cases hm
      have hl := a.length
      refine ⟨F0, _, (by have := ok_start e tb (.vals a) (N.length - (ds.map Sl.val).length); unfold L2.start; rw [hl, ← List.length_map (f := Sl.val) (as := ds)]; exact this), .rm xs, ρ, h1, ?_⟩
      exact fun p us σ H' F' x I a1 a2 a3 r => q p us H' F' ⟨I.f0, I.fh, fun p o h n m => I.fr p o h n m, I.al, I.n0, fun _ => I.tb⟩ a1 a2 a3 r
    · cases hm
section
variable {c : Ctx} {X : Cx}
theorem vs_retL {es : List Expr} {a : SA} {p1 pos : Pos} (ha : PA X es (va c a)) : PS X (.Return (some (.List es p1)) pos) (vs c (kRetL a)) :=
  ps_of (ps_ret (pe_lst ha)) fun σ H E ⟨F, ρ, I, fl, ρ', e, q⟩ => by
    unfold kRetL at e
    split at e
    · rename_i xs ρ1 e1
      split at e
      · rename_i hl
        cases e
        refine ⟨F, ρ, I, xs, ρ', e1, fun us H1 F1 x1 I1 r1 => ⟨by rw [r1.length]; exact ln_fit hl, fun p hp => ?_⟩⟩
        have h0 : c.H0 p = none := by
          cases z : c.H0 p with
          | none => rfl
          | some o => obtain ⟨o', z'⟩ := I1.al p o z; rw [hp] at z'; cases z'
        exact q p us σ _ F1 x1 (I1.grow (Grow.raw I1.fh hp)) h0 (ext_none I1.fh hp) upd_same r1
      · cases e
    · cases e
def kOwnC (i n : Nat) (m : MirM) (a : SA) : SS := fun ρ => match a ρ with
  | some (xs, ρ1) => if xs.length = n then match m (xs.map .val) with
    | some ys => some (.nx, ρ1.set i (.own ys))
    | none => none
    else none
  | none => none
theorem Ok.take {F H : Hp} {σ : L2.St} {ρ : Rho} {p : Addr} {us : List V} {xs : List D} (I : Ok c F H σ ρ) (hF : F p = none) (hp : H p = some (.lst us)) (h0 : c.H0 p = none) (ap : ∀ (j : Nat) (s : Sl) (q : Addr), ρ[j]? = some s → s.mut = true → σ[j]? = some (some (V.ref q)) → q ≠ p) (r : Reps c.G F us xs) (i : Nat) :
    Ok c F H (σ.set i (some (V.ref p))) (ρ.set i (.own xs)) := by
  refine ⟨by rw [List.length_set, List.length_set]; exact I.len, I.f0, I.fh, I.fr, I.al, I.n0, fun j s hs => ?_, fun a b s t pa qb ha hb ms mt hpa hqb e => ?_, I.hb, I.tb⟩
  · by_cases hj : i = j
    · subst hj
      have hi : i < ρ.length := by
        have := (List.getElem?_eq_some_iff.mp hs).1
        rwa [List.length_set] at this
      rw [List.getElem?_set_self hi] at hs
      cases hs
      exact ⟨some (V.ref p), by rw [List.getElem?_set_self (by rw [I.len]; exact hi)], p, rfl, h0, hF, us, hp, r⟩
    · rw [List.getElem?_set_ne hj] at hs
      obtain ⟨ov, h1, h2⟩ := I.sl j s hs
      exact ⟨ov, by rw [List.getElem?_set_ne hj]; exact h1, h2⟩
  · by_cases ia : i = a
    · by_cases ib : i = b
      · exact ia.symm.trans ib
      · subst ia
        have hl : i < σ.length := by
          have := (List.getElem?_eq_some_iff.mp hpa).1
          rwa [List.length_set] at this
        rw [List.getElem?_set_self hl] at hpa
        cases hpa
        rw [List.getElem?_set_ne ib] at hb hqb
        exact absurd e.symm (ap b t qb hb mt hqb)
    · rw [List.getElem?_set_ne ia] at ha hpa
      by_cases ib : i = b
      · subst ib
        have hl : i < σ.length := by
          have := (List.getElem?_eq_some_iff.mp hqb).1
          rwa [List.length_set] at this
        rw [List.getElem?_set_self hl] at hqb
        cases hqb
        exact absurd e (ap a s pa ha ms hpa)
      · rw [List.getElem?_set_ne ib] at hb hqb
        exact I.ap a b s t pa qb ha hb ms mt hpa hqb e
theorem Ok.no_slot {F H : Hp} {σ : L2.St} {ρ : Rho} (I : Ok c F H σ ρ) {p : Addr} (hp : H p = none) : ∀ (j : Nat) (s : Sl) (q : Addr), ρ[j]? = some s → s.mut = true → σ[j]? = some (some (V.ref q)) → q ≠ p := fun j s q hs hm hq z => by
  subst z
  obtain ⟨ov, h1, h2⟩ := I.sl j s hs
  rw [hq] at h1; cases h1
  cases s with
  | no => cases hm
  | val d => cases hm
  | lam g0 => cases hm
  | own ys => obtain ⟨q, e, _, _, vs, a3, _⟩ := h2; cases e; rw [hp] at a3; cases a3
  | bor ys => obtain ⟨q, e, _, _, vs, a3, _⟩ := h2; cases e; rw [hp] at a3; cases a3
  | slf k ys => obtain ⟨q, e, _, _, dx, vs, a3, _⟩ := h2; cases e; rw [hp] at a3; cases a3
  | dic b k ys => obtain ⟨q, e, _, _, vs, a3, _⟩ := h2; cases e; obtain ⟨o, a4⟩ := DicAt.ob a3; rw [hp] at a4; cases a4
theorem Ok.no_H0 {F H : Hp} {σ : L2.St} {ρ : Rho} (I : Ok c F H σ ρ) {p : Addr} (hp : H p = none) : c.H0 p = none := by
  cases z : c.H0 p with
  | none => rfl
  | some o => obtain ⟨o', z'⟩ := I.al p o z; rw [hp] at z'; cases z'
theorem vs_ownC {i : Nat} {x f : Str} {e : Expr} {es : List Expr} {a : SA} {k n : Nat} {m : MirM} {p cpos pos pos' : Pos} (C : CalM X.prog X.w c.G X.mg X.base f k n m) (hK : X.K = c.G.K) (hr : Room k X.A) (hN : X.N.Nodup) (ha : PA X (e :: es) (va c a)) (hg : Gl X f := by rfl) (hdb : (f == ("__debug__" : Str)) = false := by decide)
    (he : starEach (e :: es) X.env = (false, eval e X.env) :: starEach es X.env := by rfl) (hpl : (backTo cpos (starEach es X.env)).any (·.1) = false := by rfl)
    (hi : X.N[i]? = some x := by rfl) (hx : Loc X.env.scope x := by first | exact Or.inl rfl | exact Or.inr rfl) (hs : swapsWith (.Call (.Name f p) (e :: es) [] cpos) (some (.Name x pos')) pos.line X.env = pure false := by rfl) (hf : X.fn x = true ∨ X.env.scope.names.lookup x = some .local := by first | exact .inl rfl | exact .inr rfl) :
    PS X (.Assign [.Name x pos'] (.Call (.Name f p) (e :: es) [] cpos) pos) (vs c (kOwnC i n m a)) := by
  obtain ⟨fa, fd, ps, hm, hk, hb, hF⟩ := C.ex
  rw [← hK] at hk hb hF
  refine ps_of (ps_set hN hi hx (pe_call hF hr hg hm hk hb .nil pass0 ha hdb he hpl) hs hf) fun σ H E ⟨F, ρ, I, fl, ρ', e, q⟩ => ?_
  unfold kOwnC at e
  split at e
  · rename_i xs ρ1 e1
    split at e
    · rename_i hn
      split at e
      · rename_i ys e2
        cases e
        refine ⟨F, ρ, I, xs, ρ1, e1, fun us H1 F1 x1 I1 r1 => ?_⟩
        show spM c.G n m (us ++ []) H1 _ E0
        rw [List.append_nil]
        refine ⟨F1, xs, I1.fh, I1.tb, r1, hn, ys, e2, fun p ws H2 F2 k2 h1 h2 h3 r2 => ?_⟩
        exact q _ H2 F2 (x1.trans k2.f) ((keep_lift I1 k2).take h2 h3 (I1.no_H0 h1) (I1.no_slot h1) r2 i)
      · cases e
    · cases e
  · cases e

def kParL (i j : Nat) (a : SA) (e : SE) : SS := fun ρ => match a ρ with
  | some (xs, ρ1) => if xs.length ≤ LN then match e (blkR [] ρ1) with
    | some (d, ρ2) => match restore ρ1 ρ2 with
      | some r => some (.nx, (r.set j (.val d)).set i (.own xs))
      | none => none
    | none => none
    else none
  | none => none
theorem vs_parL {i j : Nat} {x y : Str} {a : Expr} {es : List Expr} {s : SE} {sa : SA} {px py pt p1 pos : Pos} {kt k2 pt2} (hc : X.calm = true) (hN : X.N.Nodup) (hl : PA X es (va c sa)) (ha : ∀ F0 H0 B, PE X a (vt ⟨c.G, F0, H0, B⟩ s)) (hw : swappedStores [.Tuple [.Name x px, .Name y py] kt pt] (.Tuple [.List es p1, a] k2 pt2) X.env = pure (some [x, y]))
    (hi : X.N[i]? = some x := by rfl) (hj : X.N[j]? = some y := by rfl) (hij : i ≠ j := by decide)
    (hx : X.env.scope.names.lookup x = some .local := by rfl) (hy : X.env.scope.names.lookup y = some .local := by rfl)
    (h1 : starEach [.List es p1, a] X.env = (false, eval (.List es p1) X.env) :: starEach [a] X.env := by rfl) (h2 : starEach [a] X.env = (false, eval a X.env) :: starEach [] X.env := by rfl)
    (hs : swapsWithSole [.Tuple [.Name x px, .Name y py] kt pt] (.Tuple [.List es p1, a] k2 pt2) pos.line X.env = pure false := by rfl) :
    PS X (.Assign [.Tuple [.Name x px, .Name y py] kt pt] (.Tuple [.List es p1, a] k2 pt2) pos) (vs c (kParL i j sa s)) :=
  ps_of (ps_par hc hN hi hj hij hx hy (pa_cons (pe_lst hl) (pa_cons (pe_X ha) pa_nil h2) h1) hw hs) fun σ H E ⟨F, ρ, I, fl, ρ', e, q⟩ => by
    unfold kParL at e
    split at e
    · rename_i xs ρ1 e1
      split at e
      · rename_i hl
        split at e
        · rename_i d ρ2 e2
          split at e
          · rename_i r e3
            cases e
            refine ⟨F, ρ, I, xs, ρ1, e1, fun us H1 F1 x1 I1 r1 => ⟨by rw [r1.length]; exact ln_fit hl, fun p hp => ?_⟩⟩
            have h0 := I1.no_H0 hp
            have hF := ext_none I1.fh hp
            have I2 := I1.grow (Grow.raw (o := .lst us) I1.fh hp)
            have J := I2.enter []
            have np : p ∉ mutA σ ρ1 := fun hm => by
              obtain ⟨j, zs, k1, k2⟩ := mem_mutA.mp hm
              rcases k1 with k1 | k1
              · exact I1.no_slot hp j _ p k1 rfl k2 rfl
              · exact I1.no_slot hp j _ p k1 rfl k2 rfl
            refine ⟨F1, _, mutA σ ρ1, F1, blkR [] ρ1, J, d, ρ2, e2, fun v H3 F3 x3 J3 r3 => ⟨.ref p, v, rfl, ?_⟩⟩
            have I3 := I2.leave J3 (rfl : wipe σ [] = wipe σ []) e3 (fun _ _ _ _ _ => by simp)
            have hp3 : H3 p = some (.lst us) := J3.fr p _ upd_same np nt_lst
            have hF3 : F3 p = none := J3.n0 p _ upd_same hF
            have sep : ∀ (j : Nat) (s : Sl) (q : Addr), r[j]? = some s → s.mut = true → σ[j]? = some (some (V.ref q)) → q ≠ p := fun j s q hs hm hq z => by
              obtain ⟨s0, z1, z2⟩ := restore_get e3 hs
              have m0 : s0.mut = true := by
                rcases z2 with ⟨z2, _⟩ | ⟨_, _, _, ⟨z3, _⟩ | ⟨z3, _⟩⟩
                · subst z2; exact hm
                · subst z3; rfl
                · subst z3; rfl
              exact I1.no_slot hp j s0 q z1 m0 hq z
            have rr := r1.ext x3
            have T := (I3.take hF3 hp3 h0 sep rr i).put j r3
            -- the order of the two stores
            have e5 : (σ.set i (some (V.ref p))).set j (some v) = (σ.set i (some (V.ref p))).set j (some v) := rfl
            have e6 : (r.set i (.own xs)).set j (.val d) = (r.set j (.val d)).set i (.own xs) := List.set_comm _ _ hij
            rw [e6] at T
            exact q _ _ _ (x1.trans x3) T
          · cases e
        · cases e
      · cases e
    · cases e
end
end VS

set_option Elab.async false
set_option linter.all false
set_option maxRecDepth 100000
set_option maxHeartbeats 8000000
namespace VS
open PySem PySem.Spec PyProof.Rows L2

section
variable {κ : Type} [DecidableEq κ]
def firsts (val : Nat → κ) : Nat → List κ
  | 0 => []
  | i + 1 => if val i ∈ firsts val i then firsts val i else firsts val i ++ [val i]
theorem firsts_le (val : Nat → κ) : ∀ i, (firsts val i).length ≤ i
  | 0 => Nat.le_refl _
  | i + 1 => by
    have := firsts_le val i
    unfold firsts
    split
    · omega
    · rw [List.length_append]; simp; omega
end
section
variable {κ : Type} [DecidableEq κ] [BEq κ] [LawfulBEq κ] {prog : Program} {w : World} {A : Around} {knd : KeyKind prog w κ}
theorem upd_turns {R : Result → Shared → Prop} {it a : Addr} {fp wr : List Addr} {Gn : Array GenState → Array GenState → Prop} {n : Nat} {Pv : Nat → Value → Prop} {St : Nat → Shared → Prop}
    (W : WalksS prog w A.in1 it fp wr Gn n Pv St) (out : a ∉ fp) (val : Nat → κ) (keyed : ∀ i v, Pv i v → knd.is (val i) v = true ∧ v.scannable = true) (few : n + 1 < scanBound)
    (left : Nat) :
    ∀ (i : Nat) (s : Shared), left = n - i → i ≤ n → St i s → s.heap.SetOf knd a (fun k => decide (k ∈ firsts val i)) (firsts val i).length →
      (∀ s', Moved (a :: wr) Gn s s' → s'.heap.SetOf knd a (fun k => decide (k ∈ firsts val n)) (firsts val n).length → R (.ok (.ret .none)) s') →
      codeAny (model prog w) A (.builtin "set.update.loop" ⟨[.ref a, .ref it], []⟩) R s := by
  have outw : a ∉ wr := fun z => out (W.sub a z)
  have wide : ∀ b ∈ wr, b ∈ a :: wr := fun _ z => List.mem_cons_of_mem _ z
  induction left with
  | zero =>
    intro i s e1 e2 st hS fin
    obtain rfl : i = n := by omega
    refine codeAny_builtin PyProof.Rows.F.entry_set_update_loop ?_
    rw [Around.under_plainId PyProof.Rows.F.plain_set_update_loop _]
    change wpAny _ A.in1 (pyNext (.ref it) >>= _) _ _ s
    refine wpAny_bind (W.done s _ _ st ?_)
    intro s' mv
    have hS' : s'.heap.SetOf knd a (fun k => decide (k ∈ firsts val i)) (firsts val i).length := by
      rcases hS with ⟨o, es, ep, t, ho, more⟩
      exact ⟨o, es, ep, t, mv.heap a o outw ho, more⟩
    exact wpAny_pure (fin s' (mv.mono wide) hS')
  | succ left again =>
    intro i s e1 e2 st hS fin
    have lt : i < n := by omega
    refine codeAny_builtin PyProof.Rows.F.entry_set_update_loop ?_
    rw [Around.under_plainId PyProof.Rows.F.plain_set_update_loop _]
    change wpAny _ A.in1 (pyNext (.ref it) >>= _) _ _ s
    refine wpAny_bind (W.item i s _ _ lt st ?_)
    intro v s' hv st' mv
    obtain ⟨kv, sv⟩ := keyed i v hv
    have hS' : s'.heap.SetOf knd a (fun k => decide (k ∈ firsts val i)) (firsts val i).length := by
      rcases hS with ⟨o, es, ep, t, ho, more⟩
      exact ⟨o, es, ep, t, mv.heap a o outw ho, more⟩
    change wpAny _ A.in1 (holding [v] (setAdd a v) >>= _) _ _ s'
    refine wpAny_bind (wpAny_holding ?_)
    unfold setAdd
    refine wpAny_holding (wpAny_bind (knd.pyHash kv ?_))
    have room : (firsts val i).length + 1 < scanBound := by have := firsts_le val i; omega
    refine wpAny_setAddHashed_of (knd := knd) (s := { s' with toks := s'.toks + 1 }) kv sv hS' room ?_
    intro h' same hS2
    have e3 : (fun k => decide (k ∈ firsts val i) || decide (k = val i)) = fun k => decide (k ∈ firsts val (i + 1)) := by
      funext k
      by_cases z : val i ∈ firsts val i
      · have : firsts val (i + 1) = firsts val i := by rw [firsts, if_pos z]
        rw [this]
        by_cases y : k = val i
        · subst y; simp [z]
        · simp [y]
      · have : firsts val (i + 1) = firsts val i ++ [val i] := by rw [firsts, if_neg z]
        rw [this]
        simp [List.mem_append]
    have e4 : (if (fun k => decide (k ∈ firsts val i)) (val i) = true then (firsts val i).length else (firsts val i).length + 1) = (firsts val (i + 1)).length := by
      by_cases z : val i ∈ firsts val i
      · simp [firsts, z]
      · simp [firsts, z]
    have hS3 : h'.SetOf knd a (fun k => decide (k ∈ firsts val (i + 1))) (firsts val (i + 1)).length := PyProof.Rows.SetOf_congr hS2 (fun k => congrFun e3 k) e4
    have stay : ∀ b, b ≠ a → ∀ o, s'.heap.get? b = some o → h'.get? b = some o := fun b z o e => (same.2 b z).trans e
    refine wpAny_pure ⟨plainId_quiet PyProof.Rows.F.plain_set_update_loop _, again (i + 1) _ (by omega) lt (W.frame _ s' _ _ st' (Nat.le_succ _) fun b hb o e => stay b (fun z => out (z ▸ hb)) o e) hS3 ?_⟩
    intro s'' mv2 hS4
    refine fin s'' (Moved.trans W.gtrans ((mv.mono wide).then_heap (Nat.le_succ _) fun b o hb e => stay b (fun z => hb (by rw [z]; exact List.mem_cons_self)) o e) mv2) hS4
theorem set_of_list0 {E : Value → Shared → Prop} {s : Shared} {l : Addr} {its : Array Value} (val : Nat → κ) {Q : Value → Shared → Prop} (calm : A.handled = none) (hl : s.heap.IsList l its)
    (keyed : ∀ (i : Nat) v, its[i]? = some v → knd.is (val i) v = true ∧ v.scannable = true) (few : its.size + 1 < scanBound)
    {Pst : Heap → Prop} (hPst : ∀ h' : Heap, h'.SetOf knd s.heap.objs.size (fun k => decide (k ∈ firsts val its.size)) (firsts val its.size).length → Pst h')
    (fin : ∀ h' tk, Pst h' → (∀ b o, b < s.heap.objs.size → s.heap.get? b = some o → h'.get? b = some o) → Q (.ref s.heap.objs.size) { s with heap := h', toks := tk }) :
    wpAny (model prog w) A (call (.type "set") [.ref l]) Q E s := by
  let nu : Bool → Obj := fun led => { cls := .type "set", dict := none, data := .set #[] 0 (.fresh 0 0 led) }
  obtain ⟨cc, tl, hmro⟩ := PySem.F.called_set.mro
  have a1 := PySem.F.called_set.made
  have a2 := PySem.F.called_set.sub
  have a3 := PySem.F.called_set.notType
  have a4 := PySem.F.called_set.canCreate
  have a5 := PySem.F.typeCall_set_1 (.ref l)
  refine wpAny_call (codeAny_of_tree ?_)
  change wpAny _ _ (callAny (.type "set") _) _ _ _
  refine wpAny_pure ⟨Code.quiet_builtin _ (by decide +kernel), codeAny_builtin PySem.F.entry_type_call ?_⟩
  rw [Around.under_plain (weight_type_call_type "set" [.ref l] []) rfl]
  repeat (any_goals (first | assumption | wp_step))
  refine codeAny_mono (PySem.code_set_new_1 (.ref l) (E := E) (Q₁ := fun ob s1 => ∃ led : Bool, ob = .ref s.heap.objs.size ∧ s1 = { s with heap := s.heap.push (nu led) }) fun led => ⟨led, rfl, rfl⟩) ?_
  intro r s1 hr
  cases r with
  | error e => exact hr
  | ok fl =>
    cases fl with
    | next => exact hr
    | brk => exact hr
    | cont => exact hr
    | ret ob =>
      obtain ⟨led, rfl, rfl⟩ := hr
      have new0 : (s.heap.push (nu led)).get? s.heap.objs.size = some (nu led) := Heap.get?_push_size _ rfl
      have ty0 : Shared.TypeIs { s with heap := s.heap.push (nu led) } (.ref s.heap.objs.size) "set" := ⟨_, new0, rfl⟩
      have b1 := PySem.F.called_set.init.lookup
      have b2 := PySem.F.called_set.init.bind (.ref s.heap.objs.size)
      repeat (any_goals (first | assumption | wp_step))
      refine codeAny_mono (codeAny_call_builtin (R := wants (fun r s2 => r = .none ∧ ∃ h' tk, s2 = { s with heap := h', toks := tk } ∧ Pst h' ∧ ∀ b o, b < s.heap.objs.size → s.heap.get? b = some o → h'.get? b = some o) E)
        PySem.F.called_set.init.plain PySem.F.entry_set_init (PySem.check_set_init_1 ty0 ?_)) ?_
      · obtain ⟨⟨k1, k2, k3, k4⟩, ho, kc, n, kd⟩ := hl
        simp only at kc kd
        subst kc kd
        have old : (s.heap.push (nu led)).get? l = some { cls := .type "list", dict := k2, data := .seq its n, slots := k4 } := Heap.get?_push_of_some _ ho
        have c1 := PySem.F.sub_list_set
        have c2 := PySem.F.sub_list_frozenset
        have c3 : (Value.type "list" == Value.type "dict") = false := by decide
        have here : (s.heap.push (nu led)).IsList l its := ⟨_, old, rfl, n, rfl⟩
        clear a1 a2 a3 a4 a5 b1 b2 hmro
        unfold Builtin.«set.__init__» noKeywords Builtin.Frozenset.updateFrom
        generalize hPI : pyIter = PI
        wp_walk
        subst hPI
        refine wpAny_pyIter_list here (wpAny_bind (wpAny_runValue ?_))
        have lt : l < s.heap.objs.size := Heap.lt_size ho
        have z1 : (s.heap.push (nu led)).objs.size = s.heap.objs.size + 1 := Heap.size_push _ _
        have calm3 : A.in1.in1.in1.handled = none := calm
        have ne : l ≠ (s.heap.push (nu led)).objs.size := by rw [z1]; exact Nat.ne_of_lt (Nat.lt_succ_of_lt lt)
        have out : s.heap.objs.size ∉ [(s.heap.push (nu led)).objs.size, l] := by
          rw [z1]
          intro z
          rcases List.mem_cons.mp z with z | z
          · exact absurd z (Nat.ne_of_lt (Nat.lt_succ_self _))
          · exact absurd (List.mem_singleton.mp z) (Nat.ne_of_gt lt)
        refine upd_turns (knd := knd) ((Walks.list calm3 _ l ne its).toS) out val keyed few (its.size - 0) 0 _ rfl (Nat.zero_le _) ⟨⟨_, Heap.get?_push_size _ rfl, rfl, rfl⟩, here.push _⟩ ?_ ?_
        · refine PyProof.Rows.SetOf_congr ((PyProof.Rows.setObjOf_fresh (knd := knd) led).setOf (Heap.get?_push_of_some _ new0) (by unfold scanBound; omega)) (fun k => ?_) rfl
          simp [firsts]
        · rintro ⟨h', g', d', tk', os'⟩ mv hS
          obtain rfl : g' = s.gens := mv.gens
          obtain rfl : d' = s.drawn := mv.drawn
          obtain rfl : os' = s.os := mv.os
          change wpAny _ _ _ _ _ _
          refine wpAny_pure ?_
          change wpAny _ _ (ret Value.none) _ _ _
          refine wpAny_pure ⟨rfl, h', tk', rfl, hPst _ hS, ?_⟩
          intro b o hb e
          refine mv.heap b o ?_ (Heap.get?_push_of_some _ (Heap.get?_push_of_some _ e))
          intro z
          rcases List.mem_cons.mp z with z | z
          · exact absurd z (Nat.ne_of_lt hb)
          · rw [List.mem_singleton, z1] at z
            exact absurd z (Nat.ne_of_lt (Nat.lt_succ_of_lt hb))
      · intro r2 s2 hr2
        cases r2 with
        | error e => exact hr2
        | ok fl2 =>
          cases fl2 with
          | next => exact hr2
          | brk => exact hr2
          | cont => exact hr2
          | ret u =>
            obtain ⟨rfl, h', tk, rfl, hS, old⟩ := hr2
            repeat (any_goals (first | assumption | wp_step))
            exact fin _ _ hS old
end
end VS

set_option Elab.async false
set_option linter.all false
set_option maxRecDepth 100000
set_option maxHeartbeats 4000000
namespace VS
open PySem PySem.Spec PyProof.Rows L2

def distinct {α : Type} [DecidableEq α] : List α → Nat
  | [] => 0
  | a :: r => if a ∈ r then distinct r else distinct r + 1
section
variable {κ : Type} [DecidableEq κ]
theorem firsts_mem (val : Nat → κ) : ∀ (n : Nat) (k : κ), k ∈ firsts val n ↔ ∃ i, i < n ∧ val i = k
  | 0, k => by simp [firsts]
  | n + 1, k => by
    unfold firsts
    split
    · rename_i h
      rw [firsts_mem val n k]
      constructor
      · rintro ⟨i, h1, h2⟩; exact ⟨i, by omega, h2⟩
      · rintro ⟨i, h1, h2⟩
        by_cases z : i = n
        · subst z; subst h2; exact (firsts_mem val i _).mp h
        · exact ⟨i, by omega, h2⟩
    · rw [List.mem_append, firsts_mem val n k, List.mem_singleton]
      constructor
      · rintro (⟨i, h1, h2⟩ | h)
        · exact ⟨i, by omega, h2⟩
        · exact ⟨n, by omega, h.symm⟩
      · rintro ⟨i, h1, h2⟩
        by_cases z : i = n
        · subst z; exact .inr h2.symm
        · exact .inl ⟨i, by omega, h2⟩
theorem firsts_nodup (val : Nat → κ) : ∀ n, (firsts val n).Nodup
  | 0 => by simp [firsts]
  | n + 1 => by
    unfold firsts
    split
    · exact firsts_nodup val n
    · rename_i h
      rw [List.nodup_append]
      refine ⟨firsts_nodup val n, by simp, fun a ha b hb e => ?_⟩
      rw [List.mem_singleton] at hb
      subst hb e
      exact h ha
def dedup : List κ → List κ
  | [] => []
  | a :: r => if a ∈ r then dedup r else a :: dedup r
theorem dedup_mem : ∀ (l : List κ) (k : κ), k ∈ dedup l ↔ k ∈ l
  | [], k => by simp [dedup]
  | a :: r, k => by
    unfold dedup
    split
    · rename_i h
      rw [dedup_mem r k, List.mem_cons]
      exact ⟨.inr, fun z => z.elim (fun z => z ▸ h) id⟩
    · rw [List.mem_cons, List.mem_cons, dedup_mem r k]
theorem dedup_nodup : ∀ l : List κ, (dedup l).Nodup
  | [] => by simp [dedup]
  | a :: r => by
    unfold dedup
    split
    · exact dedup_nodup r
    · rename_i h
      rw [List.nodup_cons, dedup_mem]
      exact ⟨h, dedup_nodup r⟩
theorem dedup_length : ∀ l : List κ, (dedup l).length = distinct l
  | [] => rfl
  | a :: r => by
    unfold dedup distinct
    split
    · exact dedup_length r
    · rw [List.length_cons, dedup_length r]
theorem firsts_length {xs : List κ} {val : Nat → κ} (h : ∀ (i : Nat) x, xs[i]? = some x → val i = x) : (firsts val xs.length).length = distinct xs := by
  rw [← dedup_length]
  refine Nat.le_antisymm ?_ ?_
  · refine (firsts_nodup val _).length_le_of_subset fun k hk => ?_
    obtain ⟨i, h1, h2⟩ := (firsts_mem val _ k).mp hk
    rw [dedup_mem]
    have : xs[i]? = some xs[i] := List.getElem?_eq_getElem h1
    rw [← h2, h i _ this]
    exact List.getElem_mem h1
  · refine (dedup_nodup xs).length_le_of_subset fun k hk => ?_
    rw [dedup_mem] at hk
    obtain ⟨i, h1, h2⟩ := List.mem_iff_getElem.mp hk
    exact (firsts_mem val _ k).mpr ⟨i, h1, by rw [h i _ (List.getElem?_eq_getElem h1)]; exact h2⟩
end
def gLenSet : G1
  | .lst xs => match strs' xs with
    | some ss => if ss.length ≤ 4000 then some (.int (distinct ss)) else none
    | none => match toIs xs with
      | some is => if is.length ≤ 4000 then some (.int (distinct is)) else none
      | none => none
  | _ => none
theorem strs_reps {G : Gx} {F : Hp} : ∀ {vs : List V} {ds : List D} {is : List Str}, Reps G F vs ds → strs' ds = some is → vs = is.map V.str
  | _, _, _, .nil, h => by unfold strs' at h; cases h; rfl
  | _, _, _, .cons h1 r, h => by
    unfold strs' at h
    split at h
    · rename_i hq; exact absurd hq (by simp)
    · split at h
      · rename_i he _ js hj
        cases h; injection he with e1 e2; subst e1 e2; cases h1; rw [strs_reps r hj]; rfl
      · cases h
    · cases h
theorem vals_at {α : Type} {f : α → V} {is : List α} {us : List Value} (r : Vals (is.map f) us) {i : Nat} {u : Value} (h : us[i]? = some u) : ∃ x, is[i]? = some x ∧ RelV (f x) u := by
  have hl : i < (is.map f).length := by rw [r.length]; exact (List.getElem?_eq_some_iff.mp h).1
  obtain ⟨u', h1, h2⟩ := r.get (List.getElem?_eq_getElem hl)
  rw [h] at h1; cases h1
  rw [List.length_map] at hl
  exact ⟨is[i], List.getElem?_eq_getElem hl, by simpa using h2⟩
section
variable {c : Ctx} {X : Cx}
theorem ve_lenSet {a : Expr} {sa : SE} {p p2 q pos : Pos} (hc : X.calm = true) (hm : X.mg "len" = none) (hm2 : X.mg "set" = none) (ha : PE X a (vt c sa)) (hg : Gl X "len" := by rfl) (hg2 : Gl X "set" := by rfl)
    (n1 : starEach [a] X.env = (false, eval a X.env) :: starEach [] X.env := by rfl) : PE X (.Call (.Name "len" p) [.Call (.Name "set" p2) [a] [] q] [] pos) (vt c (s1 gLenSet sa)) := by
  constructor
  intro pins s σ H Q I h
  obtain ⟨F, ρ, I', d, ρ', e, fin⟩ := h
  obtain ⟨x, e1, e2⟩ := s1_inv e
  refine Call_ (ld_blt I hg hm boot_len (PyProof.Rows.callWith_builtin1 (PyProof.Rows.args_cons (Call_ (ld_blt I hg2 hm2 boot_set ?_)) rfl) rfl rfl))
  refine PyProof.Rows.callWith_type1 (PyProof.Rows.args_cons (thn (ha.run pins s σ H (fun v H1 => ∃ l, v = .ref l ∧ ((∃ ss : List Str, H1 l = some (.lst (ss.map V.str)) ∧ ss.length ≤ 4000 ∧ Q (.int (distinct ss)) H1) ∨ ∃ is : List Int, H1 l = some (.lst (is.map V.int)) ∧ is.length ≤ 4000 ∧ Q (.int (distinct is)) H1)) I ⟨F, ρ, I', x, ρ', e1, fun v H1 F1 x1 I1 r1 => ?_⟩) ?_) n1) n1 rfl
  · unfold gLenSet at e2
    split at e2
    · cases r1 with
      | lst h1 rs =>
        split at e2
        · rename_i ss hs
          split at e2
          · rename_i hl
            cases e2
            exact ⟨_, rfl, .inl ⟨ss, by rw [← strs_reps rs hs]; exact I1.fh _ _ h1, hl, fin _ _ _ x1 I1 (.int _)⟩⟩
          · cases e2
        · split at e2
          · rename_i is hs
            split at e2
            · rename_i hl
              cases e2
              exact ⟨_, rfl, .inr ⟨is, by rw [← ints_reps rs hs]; exact I1.fh _ _ h1, hl, fin _ _ _ x1 I1 (.int _)⟩⟩
            · cases e2
          · cases e2
    · cases e2
  · rintro u s1 ⟨v, H1, I1, ru, l, rfl, q1⟩
    cases ru
    refine PyProof.Rows.args_nil ?_
    have stop : ∀ {κ : Type} [DecidableEq κ] [BEq κ] [LawfulBEq κ] {knd : PySem.KeyKind X.prog X.w κ} {xs : List κ} {val : Nat → κ} {its : List Value}, its.length = xs.length → xs.length ≤ 4000 → (∀ (i : Nat) x, xs[i]? = some x → val i = x) → Q (.int (distinct xs)) H1 →
        ∀ h' tk, h'.SetOf knd s1.heap.objs.size (fun k => decide (k ∈ firsts val its.toArray.size)) (firsts val its.toArray.size).length → (∀ b o, b < s1.heap.objs.size → s1.heap.get? b = some o → h'.get? b = some o) →
        wpAny (model X.prog X.w) X.A (spliced (backTo pos (starEach [] X.env))) (fun vs s₂ => wpAny (model X.prog X.w) X.A (call (.builtin "len") (Value.ref s1.heap.objs.size :: vs)) (EP X pins σ Q) X.xe s₂) X.xe { s1 with heap := h', toks := tk } := by
      intro κ _ _ _ knd xs val its hlen h4 hval hQ h' tk hS hk
      refine PyProof.Rows.args_nil ?_
      have hsz : its.toArray.size = xs.length := by rw [List.size_toArray]; exact hlen
      rw [hsz] at hS
      rw [firsts_length hval] at hS
      obtain ⟨o, es, ep, t, ho, hex, hd, _, _, _, hf, hn⟩ := hS
      have I2 : Inv X pins σ H1 { s1 with heap := h', toks := tk } := I1.kept fun b o e => hk b o (Heap.lt_size e) e
      have small : distinct xs ≤ 4000 := by
        rw [← firsts_length hval]
        exact Nat.le_trans (firsts_le _ _) h4
      exact call_len_set ho hex hd hf (by rw [hn]; omega) ⟨.int (distinct xs), H1, I2.tok _, ⟨_, by rw [hn]⟩, hQ⟩
    rcases q1 with ⟨ss, hh, hl, hQ⟩ | ⟨is, hh, hl, hQ⟩
    · obtain ⟨its, rv, pl, hz⟩ := I1.list (.of hh : SqL X.K H1 l _)
      have hlen : its.length = ss.length := by rw [← rv.length, List.length_map]
      have hval : ∀ (i : Nat) x, ss[i]? = some x → (fun i => ss.getD i Str.empty) i = x := fun i x hx => by simp [List.getD_eq_getElem?_getD, hx]
      refine set_of_list0 (knd := strKind X.prog X.w) (fun i => ss.getD i Str.empty) (I1.ok.hd hc) pl.isList (fun i v hv => ?_) (by rw [List.size_toArray, hlen]; unfold scanBound; omega) (Pst := fun h' => h'.SetOf (strKind X.prog X.w) s1.heap.objs.size _ _) (fun h' z => z) (stop hlen hl hval hQ)
      obtain ⟨x, h1, h2⟩ := vals_at rv (by simpa using hv)
      obtain ⟨t, rfl⟩ := h2
      have hv' : ss.getD i Str.empty = x := hval i x h1
      rw [hv']
      exact ⟨strKind_is _ _ _ _, rfl⟩
    · obtain ⟨its, rv, pl, hz⟩ := I1.list (.of hh : SqL X.K H1 l _)
      have hlen : its.length = is.length := by rw [← rv.length, List.length_map]
      have hval : ∀ (i : Nat) x, is[i]? = some x → (fun i => is.getD i 0) i = x := fun i x hx => by simp [List.getD_eq_getElem?_getD, hx]
      refine set_of_list0 (knd := intKind X.prog X.w) (fun i => is.getD i 0) (I1.ok.hd hc) pl.isList (fun i v hv => ?_) (by rw [List.size_toArray, hlen]; unfold scanBound; omega) (Pst := fun h' => h'.SetOf (intKind X.prog X.w) s1.heap.objs.size _ _) (fun h' z => z) (stop hlen hl hval hQ)
      obtain ⟨x, h1, h2⟩ := vals_at rv (by simpa using hv)
      obtain ⟨t, rfl⟩ := h2
      have hv' : is.getD i 0 = x := hval i x h1
      rw [hv']
      exact ⟨intKind_is _ _ _ _, rfl⟩
end
end VS

set_option Elab.async false
set_option linter.all false
set_option maxRecDepth 100000
set_option maxHeartbeats 4000000
namespace VS
open PySem PySem.Spec PyProof.Rows L2

structure ClsOk (K : PySem.W.Frag) (C : Addr) : Prop where
  cl : Cls K C
  ha : PySem.W.findIn K (.ref C) "__class__" = some (some (.builtin "object.__class__"))
  hn : PySem.W.specialIn K (.builtin "object.__class__") "__get__" = some (some (.builtin "getset_descriptor.__get__"))
  tk : PySem.W.takesIn K (.builtin "object.__class__") = some true
  mr : PySem.W.mroIn K C (.type "object") = some true
structure CalC (P : Program) (w : World) (G : Gx) (mg : Str → Option Value) (base : Heap) (x : Str) (k n : Nat) (t : Nat) (m : Mir) : Prop where
  ex : ∃ (f : Addr) (fd : FuncData) (ps : List Str), mg x = some (.ref (G.cls t)) ∧ Mk G.K (G.cls t) f ∧ Binds G.K fd ps [] ∧ FnOk P w G.K mg base CX0 k f fd ps (spV G n m)
def sMake (t nf n : Nat) (m : Mir) (a : SA) : SE := fun ρ => match a ρ with
  | some (xs, ρ1) => if xs.length + 1 = n then match m (.slf t [] :: xs.map .val) with
    | some (.non, out) => if out.length = nf then some (.ins t out, ρ1) else none
    | _ => none
    else none
  | none => none
section
variable {c : Ctx} {X : Cx}
theorem Ok.keepX {F H F' H' : Hp} {σ : L2.St} {ρ : Rho} {p : Addr} (I : Ok c F H σ ρ) (k : Keep c.G.T [p] F H F' H') (h0 : c.H0 p = none) (nl : ∀ o, H p = some o → ¬ LamL o) (ap : ∀ (j : Nat) (s : Sl) (q : Addr), ρ[j]? = some s → s.mut = true → σ[j]? = some (some (V.ref q)) → q ≠ p) : Ok c F' H' σ ρ :=
  I.kept k (fun q h => by rw [List.mem_singleton.mp h]; exact h0) (fun q h => by rw [List.mem_singleton.mp h]; exact nl) fun j s q h1 h2 h3 z => ap j s q h1 h2 h3 (List.mem_singleton.mp z)
theorem Ok.sealO {F H : Hp} {σ : L2.St} {ρ : Rho} {p : Addr} {u : HO} (I : Ok c F H σ ρ) (hp : H p = some u) (nt : ∀ ps, u ≠ .tbl ps) (nl : ¬ LamL u) (hF : F p = none) (h0 : c.H0 p = none) (ap : ∀ (j : Nat) (s : Sl) (q : Addr), ρ[j]? = some s → s.mut = true → σ[j]? = some (some (V.ref q)) → q ≠ p) : Ok c (upd F p u) H σ ρ := by
  have ex : Ext F (upd F p u) := Ext.upd hF
  refine ⟨I.len, I.f0.trans ex, fun q v e => ?_, I.fr, I.al, fun q v e1 e2 => ?_, fun i s hs => ?_, I.ap, I.hb, I.tb.seal hp nt⟩
  · by_cases z : q = p
    · subst z; rw [upd_same] at e; cases e; exact hp
    · rw [upd_ne z] at e; exact I.fh q v e
  · have z : q ≠ p := fun z => by subst z; rw [h0] at e1; cases e1
    rw [upd_ne z]; exact I.n0 q v e1 e2
  obtain ⟨ov, h1, h2⟩ := I.sl i s hs
  refine ⟨ov, h1, ?_⟩
  cases s with
  | no => cases ov <;> trivial
  | val d =>
    cases ov with
    | none => exact h2
    | some v => exact Rep.ext ex h2
  | lam g0 =>
    cases ov with
    | none => exact h2
    | some v => exact (let ⟨f1, z1, z2⟩ := h2; ⟨f1, z1, z2.move ex fun q0 u0 e1 e2 => ⟨e1, fun e3 => by rw [upd_ne (fun z => by subst z; rw [hp] at e1; cases e1; exact nl e2)]; exact e3⟩⟩)
  | own xs =>
    cases ov with
    | none => exact h2
    | some v =>
      obtain ⟨q, e, a1, a2, vs, a3, a4⟩ := h2
      exact ⟨q, e, a1, by rw [upd_ne (ap i _ q hs rfl (by rw [h1, e]))]; exact a2, vs, a3, a4.ext ex⟩
  | bor xs =>
    cases ov with
    | none => exact h2
    | some v =>
      obtain ⟨q, e, a1, a2, vs, a3, a4⟩ := h2
      exact ⟨q, e, a1, by rw [upd_ne (ap i _ q hs rfl (by rw [h1, e]))]; exact a2, vs, a3, a4.ext ex⟩
  | slf k fs =>
    cases ov with
    | none => exact h2
    | some v =>
      obtain ⟨q, e, a1, a2, dx, vs, a3, a4, a5⟩ := h2
      exact ⟨q, e, a1, by rw [upd_ne (ap i _ q hs rfl (by rw [h1, e]))]; exact a2, dx, vs, a3, a4, a5.ext ex⟩
  | dic b k fs =>
    cases ov with
    | none => exact h2
    | some v =>
      obtain ⟨q, e, a1, a2, vs, a3, a5⟩ := h2
      exact ⟨q, e, a1, by rw [upd_ne (ap i _ q hs rfl (by rw [h1, e]))]; exact a2, vs, DicAt.ext ex (fun _ z => z) a3, a5.ext ex⟩
theorem ve_make {x : Str} {p pos : Pos} {e : Expr} {es : List Expr} {k n t nf : Nat} {m : Mir} {sa : SA} (C : CalC X.prog X.w c.G X.mg X.base x k n t m) (hnf : (c.G.fld t).length = nf) (hK : X.K = c.G.K) (hr : Room (k + 1) X.A) (ha : PA X (e :: es) (va c sa)) (hg : Gl X x := by rfl) (hdb : (x == ("__debug__" : Str)) = false := by decide)
    (he : starEach (e :: es) X.env = (false, eval e X.env) :: starEach es X.env := by rfl) (hpl : (backTo pos (starEach es X.env)).any (·.1) = false := by rfl) : PE X (.Call (.Name x p) (e :: es) [] pos) (vt c (sMake t nf n m sa)) := by
  obtain ⟨f, fd, ps, hm, hk, hb, hF⟩ := C.ex
  rw [← hK] at hk hb hF
  refine pe_of (pe_make hk hF hr hg hm hb .nil pass0 ha hdb he hpl) fun σ H Q ⟨F, ρ, I, d, ρ', e, q⟩ => ?_
  unfold sMake at e
  split at e
  · rename_i xs ρ1 e1
    split at e
    · rename_i hn
      split at e
      · rename_i out e2
        split at e
        · rename_i hl
          cases e
          refine ⟨F, ρ, I, xs, ρ', e1, fun us H1 F1 x1 I1 r1 => ?_⟩
          intro a dx ha' hdx hne
          rw [List.append_nil]
          have G1 : Grow F1 H1 F1 (upd H1 dx (.own a)) := Grow.raw I1.fh hdx
          have ha2 : upd H1 dx (.own a) a = none := by rw [upd_ne hne.symm]; exact ha'
          have G2 := G1.trans (Grow.raw (o := .ins (c.G.cls t) dx []) G1.fh ha2)
          have hFa : F1 a = none := ext_none I1.fh ha'
          refine ⟨F1, [a], _, G2.fh, (I1.grow G2).tb, .slf hFa upd_same r1, by simpa using hn, .non, out, e2, fun v H2 F2 k2 o2 r2 => ?_⟩
          cases r2
          refine ⟨rfl, ?_⟩
          obtain ⟨z1, dx', fs, z2, ⟨nn, z3⟩, z4⟩ := o2 a (List.mem_singleton.mpr rfl)
          have I2 := (I1.grow G2).keepX k2 (I1.no_H0 ha') (fun o e => by rw [upd_same] at e; cases e; exact nl_ins) (I1.no_slot ha')
          have I3 := I2.sealO z2 nt_ins nl_ins z1 (I1.no_H0 ha') (I1.no_slot ha')
          have ex := Ext.upd (o := .ins (c.G.cls t) dx' fs) z1
          refine q _ H2 _ ((x1.trans k2.f).trans ex) I3 (.ins upd_same ?_ (z4.ext ex))
          have l1 := z4.length
          rw [List.length_map] at l1
          have l2 := congrArg List.length z3
          rw [List.length_map, List.length_take] at l2
          rw [z3, List.take_of_length_le (by omega)]
        · cases e
      · cases e
    · cases e
  · cases e
def kSelf (t j : Nat) (e : SE) : SS := fun ρ => match e ρ with
  | some (d, ρ1) => match (ρ1[0]? : Option Sl) with
    | some (.slf t' fs) => if t' = t ∧ fs.length = j then some (.nx, ρ1.set 0 (.slf t (fs ++ [d]))) else none
    | _ => none
  | none => none
theorem putF_new {f : Str} {v : V} : ∀ {fs : List (Str × V)}, f ∉ fs.map (·.1) → putF f v fs = fs ++ [(f, v)]
  | [], _ => rfl
  | (g, x) :: r, h => by
    simp only [List.map_cons, List.mem_cons, not_or] at h
    show (if g = f then _ else _) = _
    rw [if_neg (Ne.symm h.1), putF_new h.2]
    rfl
theorem look_take {f : Str} : ∀ {l : List Str} {j : Nat}, look f l = some j → f ∉ l.take j ∧ l.take (j + 1) = l.take j ++ [f] ∧ j < l.length
  | [], j, h => by simp [look] at h
  | g :: r, j, h => by
    unfold look at h
    by_cases e : f = g
    · rw [if_pos e] at h; cases h; subst e; simp
    · rw [if_neg e] at h
      cases e2 : look f r with
      | none => rw [e2] at h; cases h
      | some i =>
        rw [e2] at h; cases h
        obtain ⟨h1, h2, h3⟩ := look_take e2
        refine ⟨by simp [e, h1], ?_, by simp; omega⟩
        simp only [List.take_succ_cons, List.cons_append]
        rw [h2]
theorem vs_self {e o : Expr} {f : Str} {s : SE} {pos pos' : Pos} (t j : Nat) (ho : PE X o (tVar 0)) (he : PE X e (vt c s)) (cl : Cls X.K (c.G.cls t)) (nf : NoAttr X.K (c.G.cls t) f) (hj : look f (c.G.fld t) = some j) (few : j < 1000 := by decide)
    (hs : swapsWith e (some (.Attribute o f pos')) pos.line X.env = pure false := by rfl) : PS X (.Assign [.Attribute o f pos'] e pos) (vs c (kSelf t j s)) :=
  ps_of (ps_fld ho he hs) fun σ H E ⟨F, ρ, I, fl, ρ', e, q⟩ => by
    unfold kSelf at e
    split at e
    · rename_i d ρ1 e1
      split at e
      · rename_i t' fs e2
        split at e
        · rename_i hh
          cases e
          obtain ⟨rfl, hl⟩ := hh
          refine ⟨F, ρ, I, d, ρ1, e1, fun v H1 F1 x1 I1 r1 => ?_⟩
          obtain ⟨ov, h1, h2⟩ := I1.sl 0 _ e2
          cases ov with
          | none => exact h2.elim
          | some w =>
            obtain ⟨p, ep, hB, hF, dx, us, hp, ⟨n, hn⟩, r⟩ := h2
            subst ep
            have l1 := r.length
            rw [List.length_map] at l1
            have l2 := congrArg List.length hn
            rw [List.length_map, List.length_take] at l2
            obtain ⟨g1, g2, g3⟩ := look_take hj
            have names : us.map (·.1) = (c.G.fld t').take j := by
              by_cases z : n ≤ (c.G.fld t').length
              · rw [hn, show n = j by omega]
              · omega
            refine ⟨_, h1, p, c.G.cls t', dx, us, rfl, hp, cl, nf, by omega, ?_⟩
            rw [putF_new (by rw [names]; exact g1)]
            refine q _ _ F1 x1 ?_
            -- self has one field more
            have keep : Keep c.G.T [p] F1 H1 F1 (upd H1 p (.ins (c.G.cls t') dx (us ++ [(f, v)]))) := by
              refine ⟨Ext.rfl', fun a o e => ?_, fun a o e n _ => ?_, fun a o e => ?_, fun a o _ n => n, fun tb => ⟨tabs_upd tb.t hp nt_ins nc_ins, tb.n⟩⟩
              · have : a ≠ p := fun z => by subst z; rw [hF] at e; cases e
                rw [upd_ne this]; exact I1.fh a o e
              · have : a ≠ p := fun z => n (by rw [z]; exact List.mem_singleton.mpr rfl)
                rw [upd_ne this]; exact e
              · by_cases z : a = p
                · subst z; exact ⟨_, upd_same⟩
                · exact ⟨o, by rw [upd_ne z]; exact e⟩
            have l0 : 0 < ρ1.length := (List.getElem?_eq_some_iff.mp e2).1
            refine ⟨by rw [List.length_set]; exact I1.len, I1.f0, keep.fh, fun a o z1 z2 z3 => keep.h a o (I1.fr a o z1 z2 z3) (fun z => z2 (by rw [List.mem_singleton.mp z]; exact hB)) z3, fun a o z1 => ?_, I1.n0, fun i s hs => ?_, fun a b s t pa qb ha hb ms mt hpa hqb e => ?_, I1.hb, keep.t I1.tb⟩
            · obtain ⟨o', z⟩ := I1.al a o z1
              exact keep.a a o' z
            · by_cases hi : i = 0
              · subst hi
                rw [List.getElem?_set_self l0] at hs
                cases hs
                refine ⟨_, h1, p, rfl, hB, hF, dx, _, upd_same, ⟨j + 1, ?_⟩, ?_⟩
                · rw [List.map_append, names, g2]; rfl
                · rw [List.map_append]; exact r.append (.one r1)
              · rw [List.getElem?_set_ne (Ne.symm hi)] at hs
                obtain ⟨ov, k1, k2⟩ := I1.sl i s hs
                refine ⟨ov, k1, ?_⟩
                have ne : ∀ q, s.mut = true → ov = some (V.ref q) → q ≠ p := fun q hm e z => hi (I1.ap i 0 _ _ q p hs e2 hm rfl (by rw [k1, e]) h1 z)
                cases s with
                | no => cases ov <;> trivial
                | val d => cases ov <;> exact k2
                | lam g0 =>
                  cases ov with
                  | none => exact k2
                  | some v => exact let ⟨f1, z1, z2⟩ := k2; ⟨f1, z1, z2.move Ext.rfl' fun q0 u0 e1 e2 => ⟨by rw [upd_ne (fun z => by subst z; rw [hp] at e1; cases e1; exact nl_ins e2)]; exact e1, id⟩⟩
                | own xs =>
                  cases ov with
                  | none => exact k2
                  | some v =>
                    obtain ⟨q, e, a1, a2, vs, a3, a4⟩ := k2
                    exact ⟨q, e, a1, a2, vs, by rw [upd_ne (ne q rfl (by rw [e]))]; exact a3, a4⟩
                | bor xs =>
                  cases ov with
                  | none => exact k2
                  | some v =>
                    obtain ⟨q, e, a1, a2, vs, a3, a4⟩ := k2
                    exact ⟨q, e, a1, a2, vs, by rw [upd_ne (ne q rfl (by rw [e]))]; exact a3, a4⟩
                | slf z xs =>
                  cases ov with
                  | none => exact k2
                  | some v =>
                    obtain ⟨q, e, a1, a2, dx, fs, a3, a4, a5⟩ := k2
                    exact ⟨q, e, a1, a2, dx, fs, by rw [upd_ne (ne q rfl (by rw [e]))]; exact a3, a4, a5⟩
                | dic z zs xs =>
                  cases ov with
                  | none => exact k2
                  | some v =>
                    obtain ⟨q, e, a1, a2, vs, a3, a5⟩ := k2
                    exact ⟨q, e, a1, a2, vs, DicAt.ext Ext.rfl' (fun o' z => by rw [upd_ne (ne q rfl (by rw [e]))]; exact z) a3, a5⟩
            · have mu : ∀ (i : Nat) (s : Sl), (ρ1.set 0 (.slf t' (fs ++ [d])))[i]? = some s → s.mut = true → ∃ s', ρ1[i]? = some s' ∧ s'.mut = true := fun i s hs hm => by
                by_cases hi : i = 0
                · subst hi; exact ⟨_, e2, rfl⟩
                · rw [List.getElem?_set_ne (Ne.symm hi)] at hs; exact ⟨s, hs, hm⟩
              obtain ⟨s', z1, z2⟩ := mu a s ha ms
              obtain ⟨t2, z3, z4⟩ := mu b t hb mt
              exact I1.ap a b s' t2 pa qb z1 z3 z2 z4 hpa hqb e
        · cases e
      · cases e
    · cases e

def gIsTy (T : Nat) : G1
  | .non => some (.bl false)
  | .bl _ => some (.bl (T == 0 || T == 1))
  | .int _ => some (.bl (T == 1))
  | .str _ => some (.bl (T == 2))
  | .lst _ => some (.bl (T == 3))
  | .tup _ => some (.bl (T == 4))
  | _ => none
def tyName : Nat → String
  | 0 => "bool" | 1 => "int" | 2 => "str" | 3 => "list" | _ => "tuple"
theorem isTy_rule (T : Nat) (hT : T < 5) {F H : Hp} {x : V} {d r : D} (e : Ext F H) (h : Rep c.G F x d) (hg : gIsTy T d = some r) : ∃ t b, TyX X.K H x t ∧ PySem.W.kitOne X.K t (.type (tyName T)) = some b ∧ r = .bl b := by
  have k : ∀ (a : String) (b : Bool), kitB a (tyName T) = some b → PySem.W.kitOne X.K (.type a) (.type (tyName T)) = some b := fun a b z => kit_ty z
  unfold gIsTy at hg
  split at hg
  · cases hg; cases h
    exact ⟨_, false, .base .non, k _ _ (by match T, hT with | 0, _ => decide +kernel | 1, _ => decide +kernel | 2, _ => decide +kernel | 3, _ => decide +kernel | 4, _ => decide +kernel), rfl⟩
  · cases hg; cases h
    exact ⟨_, _, .base (.bl _), k _ _ (by match T, hT with | 0, _ => decide +kernel | 1, _ => decide +kernel | 2, _ => decide +kernel | 3, _ => decide +kernel | 4, _ => decide +kernel), rfl⟩
  · cases hg; cases h
    exact ⟨_, _, .base (.int _), k _ _ (by match T, hT with | 0, _ => decide +kernel | 1, _ => decide +kernel | 2, _ => decide +kernel | 3, _ => decide +kernel | 4, _ => decide +kernel), rfl⟩
  · cases hg; cases h
    exact ⟨_, _, .base (.str _), k _ _ (by match T, hT with | 0, _ => decide +kernel | 1, _ => decide +kernel | 2, _ => decide +kernel | 3, _ => decide +kernel | 4, _ => decide +kernel), rfl⟩
  · cases hg
    cases h with
    | lst h1 _ => exact ⟨_, _, .base (.lst (e _ _ h1)), k _ _ (by match T, hT with | 0, _ => decide +kernel | 1, _ => decide +kernel | 2, _ => decide +kernel | 3, _ => decide +kernel | 4, _ => decide +kernel), rfl⟩
  · cases hg
    cases h with
    | tup h1 _ => exact ⟨_, _, .base (.tup (e _ _ h1)), k _ _ (by match T, hT with | 0, _ => decide +kernel | 1, _ => decide +kernel | 2, _ => decide +kernel | 3, _ => decide +kernel | 4, _ => decide +kernel), rfl⟩
  · cases hg
end

def spLaw (G : Gx) : Sp := fun vs H Q _ => ∃ (a : Addr) (ns : List Int), vs = [.ref a] ∧ SqL G.K H a (ns.map V.int) ∧ ns.length ≤ 63 ∧ LamX.Tabs G.T H ∧ ∀ H', Q (.bl true) H'
def noTab (H : Hp) : Hp := fun a => match H a with
  | some (.tbl _) => none
  | o => o
theorem noTab_ext {H : Hp} : Ext (noTab H) H := fun a o e => by
  unfold noTab at e
  split at e
  · cases e
  · exact e
theorem noTab_of {H : Hp} {a : Addr} {o : HO} (h : H a = some o) (n : ∀ ps, o ≠ .tbl ps) : noTab H a = some o := by
  unfold noTab
  rw [h]
  split
  · rename_i z; cases z; exact absurd rfl (n _)
  · rfl
theorem sqL_noTab {K : PySem.W.Frag} {H : Hp} {a : Addr} {xs : List V} (h : SqL K H a xs) : SqL K (noTab H) a xs := by
  rcases h with (h | ⟨o, h⟩) | h
  · exact .inl (.inl (noTab_of h nt_lst))
  · exact .inl (.inr ⟨o, noTab_of h (fun _ z => by cases z)⟩)
  · exact .inr h
theorem noTab_tb {T : List (Addr × Str)} {H : Hp} (t : LamX.Tabs T H) : TbOk T (noTab H) H := ⟨t, fun p hp => by
  obtain ⟨ps, e, _⟩ := t p hp
  unfold noTab
  rw [e]⟩
theorem law_ok {P : Program} {w : World} {G : Gx} {mg : Str → Option Value} {base : Heap} {k : Nat} {f : Addr} {fd : FuncData} {x : Str} {m : Mir} (F : FnOk P w G.K mg base CX0 k f fd [x] (spV G 1 m))
    (h : ∀ ns : List Int, ns.length ≤ 63 → ∃ o, m [.val (.scr (ns.map .int))] = some (.bl true, o)) : FnOk P w G.K mg base CX0 k f fd [x] (spLaw G) := by
  refine F.imp fun vs H Q E ⟨a, ns, e, hs, hl, tb, q⟩ => ?_
  subst e
  obtain ⟨o, ho⟩ := h ns hl
  exact ⟨noTab H, [], _, noTab_ext, noTab_tb tb, .vals (ds := [.scr (ns.map .int)]) (.one (.scr (sqL_noTab hs) (reps_ints ns))), rfl, _, o, ho, fun v H' F' _ _ r => by cases r; exact q H'⟩
end VS

set_option Elab.async false
set_option linter.all false
set_option maxRecDepth 100000
set_option maxHeartbeats 4000000
namespace VS
open PySem PySem.Spec PyProof.Rows L2

abbrev ZS (h : Heap) (z TI TO : Addr) (o : Value) (f : Bool) : Prop :=
  h.get? z = some { cls := .type "zip", dict := none, data := .fields #[o, .bool f, .bool false, .ref TI, .ref TO], slots := #[] }
def OutV (o : Value) : Prop := o = .none ∨ ∃ T : Addr, o = rawInt T
section
variable {prog : Program} {w : World} {A : Around} {E : Value → Shared → Prop} {s : Shared}
theorem alive_w {T : Addr} {Q : Option Obj → Shared → Prop} (h : Q (s.heap.get? T) s) : wpAny (model prog w) A (loadIfAlive T) Q E s := fun _ _ _ => h
theorem zs_free {z TI TO : Addr} {o : Value} {f : Bool} {Q : Bool → Shared → Prop} (hz : ZS s.heap z TI TO o f) (ho : OutV o)
    (q : ∀ b h' g, ZS h' z TI TO o g → Heap.SameBut z s.heap h' → Q b { s with heap := h' }) : wpAny (model prog w) A (Builtin.SmallTypes.ownedTupleIsFree (.ref z)) Q E s := by
  unfold Builtin.SmallTypes.ownedTupleIsFree
  rcases ho with rfl | ⟨T, rfl⟩
  · exact wpAny_bind (wpAny_field hz rfl (x := Value.none) rfl (wpAny_pure (q true s.heap f hz (.refl _ _))))
  · refine wpAny_bind (wpAny_field (x := rawInt T) hz rfl rfl ?_)
    show wpAny _ _ (loadIfAlive ((T : Int).toNat) >>= _) Q E s
    rw [Int.toNat_natCast]
    refine wpAny_bind (alive_w ?_)
    cases e : s.heap.get? T with
    | none => exact wpAny_pure (q true s.heap f hz (.refl _ _))
    | some ob =>
      simp only [Option.isNone_some, Bool.false_eq_true, if_false]
      refine wpAny_bind (wpAny_field (x := .bool f) hz rfl rfl ?_)
      cases f with
      | true => exact wpAny_pure (q false s.heap true hz (.refl _ _))
      | false => exact wpAny_bind (wpAny_setField_rec hz (by simp) fun h1 z1 b1 => wpAny_pure (q false h1 true z1 b1))
theorem zs_item {z TI TO i1 i2 l1 l2 : Addr} {k : Nat} {xs ys : Array Value} {x y a b o : Value} {f : Bool} {Q : Value → Shared → Prop} (D : ZipApart z TI TO i1 i2 l1 l2)
    (hz : ZS s.heap z TI TO o f) (ho : OutV o) (hTI : IsPair s.heap TI (.ref i1) (.ref i2)) (hTO : IsPair s.heap TO a b)
    (p1 : s.heap.IsListIter i1 l1 k) (p2 : s.heap.IsListIter i2 l2 k) (q1 : s.heap.IsList l1 xs) (q2 : s.heap.IsList l2 ys) (hx : xs[k]? = some x) (hy : ys[k]? = some y)
    (fin : ∀ h' o' f' a' b', OutV o' → ZS h' z TI TO o' f' → IsPair h' TO a' b' → h'.IsListIter i1 l1 (k + 1) → h'.IsListIter i2 l2 (k + 1) → IsPair h' s.heap.objs.size x y → h'.objs.size = s.heap.objs.size + 1 →
      (∀ c u, c ≠ z → c ≠ TO → c ≠ i1 → c ≠ i2 → s.heap.get? c = some u → h'.get? c = some u) → Q (.ref s.heap.objs.size) { s with heap := h' }) :
    wpAny (model prog w) A (Builtin.«zip.__next__» ⟨[.ref z], []⟩) (fun r s' => ∃ v, r = .done (.ret v) ∧ Q v s') E s := by
  show wpAny _ _ (field (.ref z) 2 >>= _) _ E s
  refine wpAny_bind (wpAny_field (x := .bool false) hz rfl rfl ?_)
  show wpAny _ _ (field (.ref z) 3 >>= _) _ E s
  refine wpAny_bind (wpAny_field (x := .ref TI) hz rfl rfl ?_)
  refine wpAny_bind (wpAny_seqItems (E := E) hTI rfl ?_)
  show wpAny _ _ (Builtin.SmallTypes.ownedTupleIsFree (.ref z) >>= _) _ E s
  refine wpAny_bind (zs_free hz ho fun bb h0 f0 z0 b0 => ?_)
  have kTO0 : IsPair h0 TO a b := b0.extBut _ _ D.TOz hTO
  have r1 : h0.IsListIter i1 l1 k := p1.extBut b0.extBut D.i1z
  have r2 : h0.IsListIter i2 l2 k := p2.extBut b0.extBut D.i2z
  have s1 : h0.IsList l1 xs := q1.extBut b0.extBut D.l1z
  have s2 : h0.IsList l2 ys := q2.extBut b0.extBut D.l2z
  have sz0 : h0.objs.size = s.heap.objs.size := b0.1
  cases bb with
  | true =>
    simp only [if_true]
    refine wpAny_bind (wpAny_rule ?_)
    refine wpAny_bind (wpAny_field (x := .ref TO) z0 rfl rfl ?_)
    refine wpAny_bind (wpAny_setField_rec z0 (by simp) fun h1 z1 b1 => ?_)
    replace z1 : ZS h1 z TI TO .ellipsis f0 := z1
    replace b1 : Heap.SameBut z h0 h1 := b1
    refine wpAny_bind ?_
    simp only [List.zipIdx_cons, List.zipIdx_nil, List.forIn_cons, List.forIn_nil]
    refine wpAny_bind (wpAny_bind (wpAny_onRaise ?_))
    show wpAny _ _ (Builtin.SmallTypes.nextOf (.ref i1) >>= _) _ _ { s with heap := h1 }
    refine wpAny_bind (wpAny_nextOf_list_item (s := { s with heap := h1 }) (r1.extBut b1.extBut D.i1z) (s1.extBut b1.extBut D.l1z) hx fun h2 t2 b2 => wpAny_pure ?_)
    replace b2 : Heap.SameBut i1 h1 h2 := b2
    have kTO2 : IsPair h2 TO a b := b2.extBut _ _ D.TOi1 (b1.extBut _ _ D.TOz kTO0)
    refine wpAny_bind (wpAny_seqItems (s := { s with heap := h2 }) kTO2 rfl ?_)
    refine wpAny_bind (wpAny_updateSeq_pair (s := { s with heap := h2 }) kTO2 fun h3 k3 b3 => ?_)
    replace k3 : IsPair h3 TO x b := k3
    replace b3 : Heap.SameBut TO h2 h3 := b3
    refine wpAny_bind (wpAny_letGo (wpAny_pure (?_)))
    refine wpAny_bind (wpAny_bind (wpAny_onRaise (?_)))
    show wpAny _ _ (Builtin.SmallTypes.nextOf (.ref i2) >>= _) _ _ { s with heap := h3 }
    refine wpAny_bind (wpAny_nextOf_list_item (s := { s with heap := h3 }) (((r2.extBut b1.extBut D.i2z).extBut b2.extBut D.i12.symm).extBut b3.extBut D.TOi2.symm) (((s2.extBut b1.extBut D.l2z).extBut b2.extBut D.l2i1).extBut b3.extBut D.l2TO) hy fun h4 t4 b4 => wpAny_pure ?_)
    replace b4 : Heap.SameBut i2 h3 h4 := b4
    have k4 : IsPair h4 TO x b := b4.extBut _ _ D.TOi2 k3
    refine wpAny_bind (wpAny_seqItems (s := { s with heap := h4 }) k4 rfl ?_)
    refine wpAny_bind (wpAny_updateSeq_pair (s := { s with heap := h4 }) k4 fun h5 k5 b5 => ?_)
    replace k5 : IsPair h5 TO x y := k5
    replace b5 : Heap.SameBut TO h4 h5 := b5
    refine wpAny_bind (wpAny_letGo (wpAny_pure (wpAny_pure (?_))))
    refine wpAny_bind (wpAny_seqItems (s := { s with heap := h5 }) k5 rfl ?_)
    refine wpAny_bind (wpAny_newTuple (?_))
    have sz5 : h5.objs.size = s.heap.objs.size := by rw [b5.1, b4.1, b3.1, b2.1, b1.1, sz0]
    have z5 : ZS h5 z TI TO .ellipsis f0 := b5.extBut _ _ D.TOz.symm (b4.extBut _ _ D.i2z.symm (b3.extBut _ _ D.TOz.symm (b2.extBut _ _ D.i1z.symm z1)))
    have kk : ∀ c u, c ≠ z → c ≠ TO → c ≠ i1 → c ≠ i2 → s.heap.get? c = some u → h5.get? c = some u := fun c u c1 c2 c3 c4 e =>
      b5.extBut _ _ c2 (b4.extBut _ _ c4 (b3.extBut _ _ c2 (b2.extBut _ _ c3 (b1.extBut _ _ c1 (b0.extBut _ _ c1 e)))))
    have t5 : h5.IsListIter i1 l1 (k + 1) := ((t2.extBut b3.extBut D.TOi1.symm).extBut b4.extBut D.i12).extBut b5.extBut D.TOi1.symm
    have u5 : h5.IsListIter i2 l2 (k + 1) := t4.extBut b5.extBut D.TOi2.symm
    have zl : z < h5.objs.size := Heap.lt_size z5
    show wpAny _ _ (Builtin.SmallTypes.ownedTupleHandOut (.ref z) (.ref h5.objs.size) >>= _) _ _ { s with heap := h5.push { cls := .type "tuple", data := .seq #[x, y] } }
    refine wpAny_bind ?_
    unfold Builtin.SmallTypes.ownedTupleHandOut
    have z6 : ZS (h5.push { cls := .type "tuple", data := .seq #[x, y] }) z TI TO .ellipsis f0 := Heap.get?_push_of_some _ z5
    refine wpAny_bind (wpAny_setField_rec (s := { s with heap := h5.push { cls := .type "tuple", data := .seq #[x, y] } }) z6 (by simp) fun h7 z7 b7 => ?_)
    replace z7 : ZS h7 z TI TO (rawInt h5.objs.size) f0 := z7
    replace b7 : Heap.SameBut z (h5.push { cls := .type "tuple", data := .seq #[x, y] }) h7 := b7
    refine wpAny_setField_rec (s := { s with heap := h7 }) z7 (by simp) fun h8 z8 b8 => ?_
    replace z8 : ZS h8 z TI TO (rawInt h5.objs.size) false := z8
    replace b8 : Heap.SameBut z h7 h8 := b8
    have up : ∀ c u, c ≠ z → h5.get? c = some u → h8.get? c = some u := fun c u c1 e => b8.extBut _ _ c1 (b7.extBut _ _ c1 (Heap.get?_push_of_some _ e))
    have n8 : IsPair h8 h5.objs.size x y := b8.extBut _ _ (Nat.ne_of_gt zl) (b7.extBut _ _ (Nat.ne_of_gt zl) (Heap.get?_push_size _ rfl))
    have sz8 : h8.objs.size = h5.objs.size + 1 := by rw [b8.1, b7.1, Heap.size_push]
    rw [sz5] at n8 sz8
    refine wpAny_pure ⟨_, rfl, (?_)⟩
    show Q (.ref h5.objs.size) { s with heap := h8 }
    rw [sz5]
    exact fin h8 _ _ _ _ (.inr ⟨_, rfl⟩) z8 (up _ _ D.TOz k5) (t5.at fun u e => up _ u D.i1z e) (u5.at fun u e => up _ u D.i2z e) n8 sz8 fun c u c1 c2 c3 c4 e => up c u c1 (kk c u c1 c2 c3 c4 e)
  | false =>
    simp only [Bool.false_eq_true, if_false]
    refine wpAny_bind ?_
    rw [← Array.forIn_toList]
    simp only [List.forIn_cons, List.forIn_nil]
    refine wpAny_bind (wpAny_bind (wpAny_holding (?_)))
    show wpAny _ _ (Builtin.SmallTypes.nextOf (.ref i1) >>= _) _ _ { s with heap := h0 }
    refine wpAny_bind (wpAny_nextOf_list_item (s := { s with heap := h0 }) r1 s1 hx fun h2 t2 b2 => wpAny_pure ?_)
    replace b2 : Heap.SameBut i1 h0 h2 := b2
    refine wpAny_pure (?_)
    refine wpAny_bind (wpAny_bind (wpAny_holding (?_)))
    show wpAny _ _ (Builtin.SmallTypes.nextOf (.ref i2) >>= _) _ _ { s with heap := h2 }
    refine wpAny_bind (wpAny_nextOf_list_item (s := { s with heap := h2 }) (r2.extBut b2.extBut D.i12.symm) (s2.extBut b2.extBut D.l2i1) hy fun h3 t3 b3 => wpAny_pure ?_)
    replace b3 : Heap.SameBut i2 h2 h3 := b3
    refine wpAny_pure (wpAny_pure (?_))
    show wpAny _ _ (newTuple [x, y] >>= _) _ _ { s with heap := h3 }
    refine wpAny_bind (wpAny_newTuple (?_))
    have sz3 : h3.objs.size = s.heap.objs.size := by rw [b3.1, b2.1, sz0]
    have z3 : ZS h3 z TI TO o f0 := b3.extBut _ _ D.i2z.symm (b2.extBut _ _ D.i1z.symm z0)
    have kk : ∀ c u, c ≠ z → c ≠ i1 → c ≠ i2 → s.heap.get? c = some u → h3.get? c = some u := fun c u c1 c2 c3 e => b3.extBut _ _ c3 (b2.extBut _ _ c2 (b0.extBut _ _ c1 e))
    have t4 : h3.IsListIter i1 l1 (k + 1) := t2.extBut b3.extBut D.i12
    refine wpAny_pure ⟨_, rfl, (?_)⟩
    show Q (.ref h3.objs.size) _
    have n4 : IsPair (h3.push { cls := .type "tuple", data := .seq #[x, y] }) h3.objs.size x y := Heap.get?_push_size _ rfl
    have sz4 : (h3.push { cls := .type "tuple", data := .seq #[x, y] }).objs.size = h3.objs.size + 1 := Heap.size_push ..
    rw [sz3] at n4 sz4 ⊢
    exact fin _ _ _ _ _ ho (Heap.get?_push_of_some _ z3) (Heap.get?_push_of_some _ (b3.extBut _ _ D.TOi2 (b2.extBut _ _ D.TOi1 kTO0))) (t4.at fun u e => Heap.get?_push_of_some _ e) (t3.at fun u e => Heap.get?_push_of_some _ e) n4 sz4 fun c u c1 _ c3 c4 e => Heap.get?_push_of_some _ (kk c u c1 c3 c4 e)
theorem zs_end {z TI TO i1 i2 l1 l2 : Addr} {k : Nat} {xs ys : Array Value} {a b o : Value} {f : Bool} {Q : Fin → Shared → Prop} (hh : A.handled = none) (D : ZipApart z TI TO i1 i2 l1 l2)
    (hz : ZS s.heap z TI TO o f) (ho : OutV o) (hTI : IsPair s.heap TI (.ref i1) (.ref i2)) (hTO : IsPair s.heap TO a b)
    (p1 : s.heap.IsListIter i1 l1 k) (p2 : s.heap.IsListIter i2 l2 k) (q1 : s.heap.IsList l1 xs) (q2 : s.heap.IsList l2 ys) (hend : xs[k]? = none ∨ ys[k]? = none)
    (fin : ∀ h' e, (∀ c u, c ≠ z → c ≠ TO → c ≠ i1 → c ≠ i2 → s.heap.get? c = some u → h'.get? c = some u) → (∃ u, h'.get? e = some u ∧ u.cls = .type "StopIteration") → E (.ref e) { s with heap := h' }) :
    wpAny (model prog w) A (Builtin.«zip.__next__» ⟨[.ref z], []⟩) Q E s := by
  show wpAny _ _ (field (.ref z) 2 >>= _) _ E s
  refine wpAny_bind (wpAny_field (x := .bool false) hz rfl rfl ?_)
  show wpAny _ _ (field (.ref z) 3 >>= _) _ E s
  refine wpAny_bind (wpAny_field (x := .ref TI) hz rfl rfl ?_)
  refine wpAny_bind (wpAny_seqItems (E := E) hTI rfl ?_)
  show wpAny _ _ (Builtin.SmallTypes.ownedTupleIsFree (.ref z) >>= _) _ E s
  refine wpAny_bind (zs_free hz ho fun bb h0 f0 z0 b0 => ?_)
  have kTO0 : IsPair h0 TO a b := b0.extBut _ _ D.TOz hTO
  have r1 : h0.IsListIter i1 l1 k := p1.extBut b0.extBut D.i1z
  have r2 : h0.IsListIter i2 l2 k := p2.extBut b0.extBut D.i2z
  have s1 : h0.IsList l1 xs := q1.extBut b0.extBut D.l1z
  have s2 : h0.IsList l2 ys := q2.extBut b0.extBut D.l2z
  cases bb with
  | true =>
    simp only [if_true]
    refine wpAny_bind (wpAny_rule ?_)
    refine wpAny_bind (wpAny_field (x := .ref TO) z0 rfl rfl ?_)
    refine wpAny_bind (wpAny_setField_rec z0 (by simp) fun h1 z1 b1 => ?_)
    replace z1 : ZS h1 z TI TO .ellipsis f0 := z1
    replace b1 : Heap.SameBut z h0 h1 := b1
    refine wpAny_bind ?_
    simp only [List.zipIdx_cons, List.zipIdx_nil, List.forIn_cons, List.forIn_nil]
    refine wpAny_bind (wpAny_bind (wpAny_onRaise (?_)))
    show wpAny _ _ (Builtin.SmallTypes.nextOf (.ref i1) >>= _) _ _ { s with heap := h1 }
    cases hx : xs[k]? with
    | none =>
      refine wpAny_bind (wpAny_nextOf_list_end (s := { s with heap := h1 }) hh (r1.extBut b1.extBut D.i1z) (s1.extBut b1.extBut D.l1z) hx fun h2 e b2 he => ?_)
      obtain ⟨oe, hoe, hce⟩ := he
      replace b2 : Heap.ExtBut i1 h1 h2 := b2
      have z2 : ZS h2 z TI TO .ellipsis f0 := b2 _ _ D.i1z.symm z1
      have ez : e ≠ z := fun x => by subst x; rw [z2] at hoe; cases hoe; simp at hce
      refine wpAny_setField_rec (s := { s with heap := h2 }) z2 (by simp) fun h3 _ b3 => fin h3 e (fun c u c1 _ c3 _ x => b3.extBut _ _ c1 (b2 _ _ c3 (b1.extBut _ _ c1 (b0.extBut _ _ c1 x)))) ⟨oe, b3.extBut _ _ ez hoe, hce⟩
    | some x =>
      have hy : ys[k]? = none := by
        rcases hend with h | h
        · rw [hx] at h; cases h
        · exact h
      refine wpAny_bind (wpAny_nextOf_list_item (s := { s with heap := h1 }) (r1.extBut b1.extBut D.i1z) (s1.extBut b1.extBut D.l1z) hx fun h2 t2 b2 => wpAny_pure ?_)
      replace b2 : Heap.SameBut i1 h1 h2 := b2
      have kTO2 : IsPair h2 TO a b := b2.extBut _ _ D.TOi1 (b1.extBut _ _ D.TOz kTO0)
      refine wpAny_bind (wpAny_seqItems (s := { s with heap := h2 }) kTO2 rfl ?_)
      refine wpAny_bind (wpAny_updateSeq_pair (s := { s with heap := h2 }) kTO2 fun h3 k3 b3 => ?_)
      replace b3 : Heap.SameBut TO h2 h3 := b3
      refine wpAny_bind (wpAny_letGo (wpAny_pure (?_)))
      refine wpAny_bind (wpAny_bind (wpAny_onRaise (?_)))
      show wpAny _ _ (Builtin.SmallTypes.nextOf (.ref i2) >>= _) _ _ { s with heap := h3 }
      refine wpAny_bind (wpAny_nextOf_list_end (s := { s with heap := h3 }) hh (((r2.extBut b1.extBut D.i2z).extBut b2.extBut D.i12.symm).extBut b3.extBut D.TOi2.symm) (((s2.extBut b1.extBut D.l2z).extBut b2.extBut D.l2i1).extBut b3.extBut D.l2TO) hy fun h4 e b4 he => ?_)
      obtain ⟨oe, hoe, hce⟩ := he
      replace b4 : Heap.ExtBut i2 h3 h4 := b4
      have z4 : ZS h4 z TI TO .ellipsis f0 := b4 _ _ D.i2z.symm (b3.extBut _ _ D.TOz.symm (b2.extBut _ _ D.i1z.symm z1))
      have ez : e ≠ z := fun x => by subst x; rw [z4] at hoe; cases hoe; simp at hce
      refine wpAny_setField_rec (s := { s with heap := h4 }) z4 (by simp) fun h5 _ b5 => fin h5 e (fun c u c1 c2 c3 c4 x => b5.extBut _ _ c1 (b4 _ _ c4 (b3.extBut _ _ c2 (b2.extBut _ _ c3 (b1.extBut _ _ c1 (b0.extBut _ _ c1 x)))))) ⟨oe, b5.extBut _ _ ez hoe, hce⟩
  | false =>
    simp only [Bool.false_eq_true, if_false]
    refine wpAny_bind ?_
    rw [← Array.forIn_toList]
    simp only [List.forIn_cons, List.forIn_nil]
    refine wpAny_bind (wpAny_bind (wpAny_holding (?_)))
    show wpAny _ _ (Builtin.SmallTypes.nextOf (.ref i1) >>= _) _ _ { s with heap := h0 }
    cases hx : xs[k]? with
    | none =>
      refine wpAny_bind (wpAny_nextOf_list_end (s := { s with heap := h0 }) hh r1 s1 hx fun h2 e b2 he => ?_)
      exact fin h2 e (fun c u c1 _ c3 _ x => b2 _ _ c3 (b0.extBut _ _ c1 x)) he
    | some x =>
      have hy : ys[k]? = none := by
        rcases hend with h | h
        · rw [hx] at h; cases h
        · exact h
      refine wpAny_bind (wpAny_nextOf_list_item (s := { s with heap := h0 }) r1 s1 hx fun h2 t2 b2 => wpAny_pure ?_)
      replace b2 : Heap.SameBut i1 h0 h2 := b2
      refine wpAny_pure (?_)
      refine wpAny_bind (wpAny_bind (wpAny_holding (?_)))
      show wpAny _ _ (Builtin.SmallTypes.nextOf (.ref i2) >>= _) _ _ { s with heap := h2 }
      refine wpAny_bind (wpAny_nextOf_list_end (s := { s with heap := h2 }) hh (r2.extBut b2.extBut D.i12.symm) (s2.extBut b2.extBut D.l2i1) hy fun h3 e b3 he => ?_)
      exact fin h3 e (fun c u c1 _ c3 c4 x => b3 _ _ c4 (b2.extBut _ _ c3 (b0.extBut _ _ c1 x))) he
end
end VS

set_option Elab.async false
set_option linter.all false
set_option maxRecDepth 100000
set_option maxHeartbeats 4000000
namespace VS
open PySem PySem.Spec PyProof.Rows L2
section
variable {prog : Program} {w : World} {A : Around} {E : Value → Shared → Prop} {s : Shared}
theorem enumAny_item {e it : Addr} {c : Int} {old : Value} {Gx : Value → Heap → Prop} {Q : Value → Shared → Prop} (he : IsEnum s.heap e it c old)
    (hn : ∀ Q' : Value → Shared → Prop, (∀ x h1, Gx x h1 → IsEnum h1 e it c old → Q' x { s with heap := h1 }) → wpAny (model prog w) A (Builtin.SmallTypes.nextOf (.ref it)) Q' E s)
    (fin : ∀ x h1 h', Gx x h1 → IsEnum h1 e it c old → IsEnumOut h' e it (c + 1) x h1.objs.size → h'.get? h1.objs.size = some { cls := .type "tuple", data := .seq #[.int c s.toks, x] } → h'.objs.size = h1.objs.size + 1 →
      (∀ b o, b ≠ e → h1.get? b = some o → h'.get? b = some o) → Q (.ref h1.objs.size) { s with heap := h', toks := s.toks + 1 }) :
    wpAny (model prog w) A (Builtin.«enumerate.__next__» ⟨[.ref e], []⟩) (fun r s' => ∃ v, r = .done (.ret v) ∧ Q v s') E s := by
  obtain ⟨hp, g, d, tk, os⟩ := s
  show wpAny _ _ (field (.ref e) 2 >>= _) _ E _
  refine wpAny_bind (wpAny_field (x := .ref it) he rfl rfl ?_)
  refine wpAny_bind (hn _ fun x h1 gx e1 => ?_)
  show wpAny _ _ (field (.ref e) 3 >>= _) _ E ⟨h1, g, d, tk, os⟩
  refine wpAny_bind (wpAny_field (x := rawInt c) e1 rfl rfl ?_)
  show wpAny _ _ (field (.ref e) 4 >>= _) _ E ⟨h1, g, d, tk, os⟩
  refine wpAny_bind (wpAny_field (x := .none) e1 rfl rfl ?_)
  show wpAny _ _ (mkInt c >>= _) _ E ⟨h1, g, d, tk, os⟩
  refine wpAny_bind (wpAny_mkInt (?_))
  show wpAny _ _ (setField (.ref e) 3 (rawInt (c + 1)) >>= _) _ E ⟨h1, g, d, tk + 1, os⟩
  refine wpAny_bind (wpAny_setField_rec (s := ⟨h1, g, d, tk + 1, os⟩) e1 (by simp) fun h2 e2 b2 => ?_)
  replace b2 : Heap.SameBut e h1 h2 := b2
  replace e2 : IsEnum h2 e it (c + 1) old := e2
  show wpAny _ _ (setField (.ref e) 4 .none >>= _) _ E ⟨h2, g, d, tk + 1, os⟩
  refine wpAny_bind (wpAny_setField_rec (s := ⟨h2, g, d, tk + 1, os⟩) e2 (by simp) fun h3 e3 b3 => ?_)
  replace b3 : Heap.SameBut e h2 h3 := b3
  replace e3 : IsEnum h3 e it (c + 1) old := e3
  show wpAny _ _ (newTuple [.int c tk, x] >>= _) _ E ⟨h3, g, d, tk + 1, os⟩
  refine wpAny_bind (wpAny_newTuple (?_))
  have e4 : IsEnum (h3.push { cls := .type "tuple", data := .seq #[.int c tk, x] }) e it (c + 1) old := Heap.get?_push_of_some _ e3
  generalize eq4 : h3.push { cls := .type "tuple", data := .seq #[.int c tk, x] } = h4 at e4
  have sz3 : h3.objs.size = h1.objs.size := by rw [b3.1, b2.1]
  have el : e < h1.objs.size := Heap.lt_size e1
  have t4 : h4.get? h1.objs.size = some { cls := .type "tuple", data := .seq #[.int c tk, x] } := by rw [← eq4, ← sz3]; exact Heap.get?_push_size _ rfl
  have sz4 : h4.objs.size = h1.objs.size + 1 := by rw [← eq4, Heap.size_push, sz3]
  have k4 : ∀ b o, b ≠ e → h1.get? b = some o → h4.get? b = some o := fun b o hb q => by
    rw [← eq4]; exact Heap.get?_push_of_some _ (b3.extBut b o hb (b2.extBut b o hb q))
  show wpAny _ _ (Builtin.SmallTypes.ownedTupleIsFree (.ref e) >>= _) _ E ⟨h4, g, d, tk + 1, os⟩
  rw [sz3]
  clear eq4 e3 b3 e2 b2 sz3 h3 h2
  refine wpAny_bind (?_)
  unfold Builtin.SmallTypes.ownedTupleIsFree
  refine wpAny_bind (wpAny_field (x := .none) e4 rfl rfl (wpAny_pure ?_))
  simp only [if_true]
  refine wpAny_bind (wpAny_rule (?_))
  refine wpAny_bind (wpAny_field (x := old) e4 rfl rfl ?_)
  refine wpAny_bind (wpAny_setField_rec (s := ⟨h4, g, d, tk + 1, os⟩) e4 (by simp) fun h5 e5 b5 => ?_)
  replace b5 : Heap.SameBut e h4 h5 := b5
  replace e5 : IsEnum h5 e it (c + 1) x := e5
  show wpAny _ _ (Builtin.SmallTypes.ownedTupleHandOut (.ref e) (.ref h1.objs.size) >>= _) _ E ⟨h5, g, d, tk + 1, os⟩
  refine wpAny_bind (?_)
  unfold Builtin.SmallTypes.ownedTupleHandOut
  refine wpAny_bind (wpAny_setField_rec (s := ⟨h5, g, d, tk + 1, os⟩) e5 (by simp) fun h6 e6 b6 => ?_)
  replace b6 : Heap.SameBut e h5 h6 := b6
  replace e6 : IsEnumOut h6 e it (c + 1) x h1.objs.size := e6
  refine wpAny_setField_rec (s := ⟨h6, g, d, tk + 1, os⟩) e6 (by simp) fun h7 e7 b7 => ?_
  replace b7 : Heap.SameBut e h6 h7 := b7
  replace e7 : IsEnumOut h7 e it (c + 1) x h1.objs.size := e7
  refine wpAny_bind (wpAny_letGo (wpAny_pure ⟨_, rfl, fin x h1 h7 gx e1 e7 ?_ ?_ ?_⟩))
  · exact b7.extBut _ _ (Nat.ne_of_gt el) (b6.extBut _ _ (Nat.ne_of_gt el) (b5.extBut _ _ (Nat.ne_of_gt el) t4))
  · rw [b7.1, b6.1, b5.1, sz4]
  · exact fun b o hb q => b7.extBut b o hb (b6.extBut b o hb (b5.extBut b o hb (k4 b o hb q)))
theorem zs_nextOf {z TI TO i1 i2 l1 l2 : Addr} {k : Nat} {xs ys : Array Value} {x y a b o : Value} {f : Bool} {Q : Value → Shared → Prop} (D : ZipApart z TI TO i1 i2 l1 l2)
    (hz : ZS s.heap z TI TO o f) (ho : OutV o) (hTI : IsPair s.heap TI (.ref i1) (.ref i2)) (hTO : IsPair s.heap TO a b)
    (p1 : s.heap.IsListIter i1 l1 k) (p2 : s.heap.IsListIter i2 l2 k) (q1 : s.heap.IsList l1 xs) (q2 : s.heap.IsList l2 ys) (hx : xs[k]? = some x) (hy : ys[k]? = some y)
    (fin : ∀ h' o' f' a' b', OutV o' → ZS h' z TI TO o' f' → IsPair h' TO a' b' → h'.IsListIter i1 l1 (k + 1) → h'.IsListIter i2 l2 (k + 1) → IsPair h' s.heap.objs.size x y → h'.objs.size = s.heap.objs.size + 1 →
      (∀ c u, c ≠ z → c ≠ TO → c ≠ i1 → c ≠ i2 → s.heap.get? c = some u → h'.get? c = some u) → Q (.ref s.heap.objs.size) { s with heap := h' }) :
    wpAny (model prog w) A (Builtin.SmallTypes.nextOf (.ref z)) Q E s := by
  have ty : s.TypeIs (.ref z) "zip" := ⟨_, hz, rfl⟩
  unfold Builtin.SmallTypes.nextOf
  exact wpAny_bind (wpAny_callSpecial?_slot (name := Str.ofString "__next__") ty F.slot_zip_next (wpAny_call_entry F.slot_zip_next ty F.entry_zip_next
    (zs_item D hz ho hTI hTO p1 p2 q1 q2 hx hy fun h' o' f' a' b' g1 g2 g3 g4 g5 g6 g7 g8 => wpAny_pure (fin h' o' f' a' b' g1 g2 g3 g4 g5 g6 g7 g8)) (F.args_zip_next_1 _)))
theorem zs_nextOf_end {z TI TO i1 i2 l1 l2 : Addr} {k : Nat} {xs ys : Array Value} {a b o : Value} {f : Bool} {Q : Value → Shared → Prop} (hh : A.in1.handled = none) (D : ZipApart z TI TO i1 i2 l1 l2)
    (hz : ZS s.heap z TI TO o f) (ho : OutV o) (hTI : IsPair s.heap TI (.ref i1) (.ref i2)) (hTO : IsPair s.heap TO a b)
    (p1 : s.heap.IsListIter i1 l1 k) (p2 : s.heap.IsListIter i2 l2 k) (q1 : s.heap.IsList l1 xs) (q2 : s.heap.IsList l2 ys) (hend : xs[k]? = none ∨ ys[k]? = none)
    (fin : ∀ h' e, (∀ c u, c ≠ z → c ≠ TO → c ≠ i1 → c ≠ i2 → s.heap.get? c = some u → h'.get? c = some u) → (∃ u, h'.get? e = some u ∧ u.cls = .type "StopIteration") → E (.ref e) { s with heap := h' }) :
    wpAny (model prog w) A (Builtin.SmallTypes.nextOf (.ref z)) Q E s := by
  have ty : s.TypeIs (.ref z) "zip" := ⟨_, hz, rfl⟩
  unfold Builtin.SmallTypes.nextOf
  exact wpAny_bind (wpAny_callSpecial?_slot (name := Str.ofString "__next__") ty F.slot_zip_next (wpAny_call_entry F.slot_zip_next ty F.entry_zip_next
    (zs_end hh D hz ho hTI hTO p1 p2 q1 q2 hend fin) (F.args_zip_next_1 _)))
end
end VS

set_option Elab.async false
set_option linter.all false
set_option maxRecDepth 100000
set_option maxHeartbeats 4000000
namespace VS
open PySem PySem.Spec PyProof.Rows L2
def ItEZ (K : PySem.W.Frag) (a b : Addr) : It :=
  ⟨fun i H => ∃ (xs ys : List V) (x y : V), SqL K H a xs ∧ SqL K H b ys ∧ xs[i]? = some x ∧ ys[i]? = some y,
    fun i H v H' => ∃ T1 T2 x y, v = .ref T2 ∧ H T1 = none ∧ H T2 = none ∧ T1 ≠ T2 ∧ H' = upd (upd H T1 (.tup [x, y])) T2 (.tup [.int (i : Nat), .ref T1]) ∧ (∀ xs, SqL K H a xs → xs[i]? = some x) ∧ ∀ ys, SqL K H b ys → ys[i]? = some y,
    fun i H => ∃ xs ys : List V, SqL K H a xs ∧ SqL K H b ys ∧ (xs.length ≤ i ∨ ys.length ≤ i)⟩
structure EApart (e z TI TO i1 i2 : Addr) : Prop where
  z : e ≠ z
  TI : e ≠ TI
  TO : e ≠ TO
  i1 : e ≠ i1
  i2 : e ≠ i2
theorem apart5 (n : Nat) : EApart (n + 5) (n + 4) (n + 2) (n + 3) n (n + 1) := ⟨Nat.ne_of_gt (by omega), Nat.ne_of_gt (by omega), Nat.ne_of_gt (by omega), Nat.ne_of_gt (by omega), Nat.ne_of_gt (by omega)⟩
def tnEZ (a b e z TI TO i1 i2 : Addr) (i : Nat) (h : Heap) : Prop :=
  (∃ old, IsEnum h e z (0 + (i : Int)) old) ∧ (∃ o f, OutV o ∧ ZS h z TI TO o f) ∧ IsPair h TI (.ref i1) (.ref i2) ∧ (∃ x y, IsPair h TO x y) ∧ h.IsListIter i1 a i ∧ h.IsListIter i2 b i
theorem upd_none {H : Hp} {T b : Addr} {o : HO} (h : H b = none) (n : b ≠ T) : upd H T o b = none := by rw [upd_ne n]; exact h
theorem turn_enumZ {P : Program} {w : World} {K : PySem.W.Frag} {elts : List Expr} {kk : Nat} {tpos : Pos} {a b e z TI TO i1 i2 : Addr} (D : ZipApart z TI TO i1 i2 a b) (D2 : EApart e z TI TO i1 i2) :
    Turn P w K (.Tuple elts kk tpos) (ItEZ K a b) [e, z, TI, TO, i1, i2] e (tnEZ a b e z TI TO i1 i2) where
  mem := List.mem_cons_self
  obj := by
    rintro i h ⟨⟨old, he⟩, ⟨o, f, _, hz⟩, hTI, ⟨x, y, hTO⟩, ⟨o1, e1, _, d1⟩, ⟨o2, e2, _, d2⟩⟩ c hc
    simp only [List.mem_cons, List.not_mem_nil, or_false] at hc
    rcases hc with q | q | q | q | q | q
    · rw [q]; exact ⟨_, he, fun v q => nomatch q⟩
    · rw [q]; exact ⟨_, hz, fun v q => nomatch q⟩
    · rw [q]; exact ⟨_, hTI, fun v q => nomatch q⟩
    · rw [q]; exact ⟨_, hTO, fun v q => nomatch q⟩
    · rw [q]; exact ⟨o1, e1, fun v r => by rw [d1] at r; cases r⟩
    · rw [q]; exact ⟨o2, e2, fun v r => by rw [d2] at r; cases r⟩
  keep := by
    rintro i h h' ⟨⟨old, he⟩, ⟨o, f, ho, hz⟩, hTI, ⟨x, y, hTO⟩, t1, t2⟩ k
    exact ⟨⟨old, k e (by simp) _ he⟩, ⟨o, f, ho, k z (by simp) _ hz⟩, k TI (by simp) _ hTI, ⟨x, y, k TO (by simp) _ hTO⟩, t1.at fun o q => k i1 (by simp) o q, t2.at fun o q => k i2 (by simp) o q⟩
  item := by
    rintro X rfl rfl rfl hc i pins s σ H E I hf ⟨⟨old, he⟩, ⟨o, f, ho, hz⟩, hTI, ⟨x0, y0, hTO⟩, t1, t2⟩ ⟨xs, ys, x, y, hqx, hqy, hx, hy⟩
    obtain ⟨its, rv, p, _⟩ := I.list hqx
    obtain ⟨its2, rv2, p2, _⟩ := I.list hqy
    obtain ⟨u, hu, ru⟩ := rv.get hx
    obtain ⟨u2, hu2, ru2⟩ := rv2.get hy
    have el : e < s.heap.objs.size := Heap.lt_size he
    have ty : s.TypeIs (.ref e) "enumerate" := ⟨_, he, rfl⟩
    unfold pyNext
    refine wpAny_bind (wpAny_attempt (wpAny_callSpecial?_slot (name := Str.ofString "__next__") ty F.slot_enumerate_next (wpAny_call_entry F.slot_enumerate_next ty F.entry_enumerate_next
      (enumAny_item (Gx := fun v h1 => v = .ref s.heap.objs.size ∧ ∃ o' f' a' b', OutV o' ∧ ZS h1 z TI TO o' f' ∧ IsPair h1 TO a' b' ∧ h1.IsListIter i1 a (i + 1) ∧ h1.IsListIter i2 b (i + 1) ∧ IsPair h1 s.heap.objs.size u u2 ∧ h1.objs.size = s.heap.objs.size + 1 ∧
        (∀ c u, c ≠ z → c ≠ TO → c ≠ i1 → c ≠ i2 → s.heap.get? c = some u → h1.get? c = some u)) he (fun Q' q' => zs_nextOf D hz ho hTI hTO t1 t2 p.isList p2.isList (x := u) (y := u2) (by simpa using hu) (by simpa using hu2)
          fun h' o' f' a' b' g1 g2 g3 g4 g5 g6 g7 g8 => q' _ h' ⟨rfl, o', f', a', b', g1, g2, g3, g4, g5, g6, g7, g8⟩ (g8 e _ D2.z D2.TO D2.i1 D2.i2 he)) ?_) (F.args_enumerate_next_1 _))))
    rintro v h1 h2 ⟨rfl, o', f', a', b', g1, g2, g3, g4, g5, g6, g7, g8⟩ e1 e2 n2 sz2 k2
    refine wpAny_pure ⟨_, rfl, wpAny_letOwnedTupleGo_enum (s := { s with heap := h2, toks := s.toks + 1 }) e2 fun h3 e3 b3 => ?_⟩
    replace b3 : Heap.SameBut e h2 h3 := b3
    have k3 : ∀ c u, c ≠ e → h1.get? c = some u → h3.get? c = some u := fun c u n q => b3.extBut c u n (k2 c u n q)
    have new1 : ObjOk X.prog X.w (upd H s.heap.objs.size (.tup [x, y])) h1 s.heap.objs.size (.tup [x, y]) := ⟨by show 2 ≤ sizeLine; decide, [u, u2], .cons ru (.cons ru2 .nil), ⟨_, g6, rfl, _, rfl⟩⟩
    have I1 : Inv X pins σ (upd H s.heap.objs.size (.tup [x, y])) { s with heap := h1, toks := s.toks } :=
      I.turnedNew (t' := s.toks) (ch := [e, z, TI, TO, i1, i2]) (fun c o hb q => g8 c o (fun q' => hb (by simp [q'])) (fun q' => hb (by simp [q'])) (fun q' => hb (by simp [q'])) (fun q' => hb (by simp [q'])) q) hf (Nat.le_refl _) new1
    have lt : ∀ c ∈ [e, z, TI, TO, i1, i2], c < s.heap.objs.size := by
      intro c hc
      simp only [List.mem_cons, List.not_mem_nil, or_false] at hc
      rcases hc with q | q | q | q | q | q
      · rw [q]; exact el
      · rw [q]; exact Heap.lt_size hz
      · rw [q]; exact Heap.lt_size hTI
      · rw [q]; exact Heap.lt_size hTO
      · rw [q]; obtain ⟨_, q1, _⟩ := t1; exact Heap.lt_size q1
      · rw [q]; obtain ⟨_, q1, _⟩ := t2; exact Heap.lt_size q1
    have hf1 : ∀ c ∈ [e, z, TI, TO, i1, i2], FpOk X pins (upd H s.heap.objs.size (.tup [x, y])) c := fun c hc => by
      obtain ⟨f1, f2⟩ := hf c hc
      exact ⟨upd_none f1 (Nat.ne_of_lt (lt c hc)), f2⟩
    have hN1 : (upd H s.heap.objs.size (.tup [x, y])) h1.objs.size = none := I1.hok.fresh (Nat.le_refl _)
    have new2 : ObjOk X.prog X.w (upd (upd H s.heap.objs.size (.tup [x, y])) h1.objs.size (.tup [.int (i : Nat), .ref s.heap.objs.size])) h3 h1.objs.size (.tup [.int (i : Nat), .ref s.heap.objs.size]) := by
      refine ⟨by show 2 ≤ sizeLine; decide, [.int (0 + (i : Int)) s.toks, .ref s.heap.objs.size], .cons ⟨s.toks, by rw [Int.zero_add]⟩ (.cons rfl .nil), ⟨_, b3.extBut _ _ (Nat.ne_of_gt (Nat.lt_of_lt_of_le el (by omega))) n2, rfl, _, rfl⟩⟩
    have I2 : Inv X pins σ (upd (upd H s.heap.objs.size (.tup [x, y])) h1.objs.size (.tup [.int (i : Nat), .ref s.heap.objs.size])) { s with heap := h3, toks := s.toks + 1 } :=
      I1.turnedNew (s := { s with heap := h1, toks := s.toks }) (t' := s.toks + 1) (ch := [e, z, TI, TO, i1, i2]) (fun c o hb q => k3 c o (fun q' => hb (by simp [q'])) q) hf1 (Nat.le_refl _) new2
    refine ⟨.ref h1.objs.size, _, I2, rfl, ⟨_, _, x, y, rfl, I.hok.fresh (Nat.le_refl _), I.hok.fresh (by omega), Nat.ne_of_lt (by omega), rfl, fun l hl => by rw [I.list_inj hl hqx]; exact hx, fun l hl => by rw [I.list_inj hl hqy]; exact hy⟩, ⟨⟨.ref s.heap.objs.size, ?_⟩, ⟨o', f', g1, k3 z _ D2.z.symm g2⟩, k3 TI _ D2.TI.symm (g8 TI _ D.TIz D.TITO D.TIi1 D.TIi2 hTI), ⟨a', b', k3 TO _ D2.TO.symm g3⟩, g4.at fun o q => k3 i1 o D2.i1.symm q, g5.at fun o q => k3 i2 o D2.i2.symm q⟩, fun c hcm => ?_⟩
    · have q : (0 : Int) + ((i + 1 : Nat) : Int) = 0 + (i : Int) + 1 := by omega
      rw [q]
      exact e3
    · have q := lt c hcm
      have q2 : s.heap.objs.size < h1.objs.size := by rw [g7]; exact Nat.lt_succ_self _
      rw [upd_ne (Nat.ne_of_lt (Nat.lt_trans q q2)), upd_ne (Nat.ne_of_lt q)]
      exact (hf c hcm).1
  done := by
    rintro X rfl rfl rfl hc i pins s σ H E I hf ⟨⟨old, he⟩, ⟨o, f, ho, hz⟩, hTI, ⟨x0, y0, hTO⟩, t1, t2⟩ ⟨xs, ys, hqx, hqy, hend⟩
    obtain ⟨its, rv, p, _⟩ := I.list hqx
    obtain ⟨its2, rv2, p2, _⟩ := I.list hqy
    have l1 := rv.length
    have l2 := rv2.length
    have hen : its.toArray[i]? = none ∨ its2.toArray[i]? = none := by
      rcases hend with q | q
      · exact .inl (by simp; omega)
      · exact .inr (by simp; omega)
    have ty : s.TypeIs (.ref e) "enumerate" := ⟨_, he, rfl⟩
    unfold pyNext
    refine wpAny_bind (wpAny_attempt (wpAny_callSpecial?_slot (name := Str.ofString "__next__") ty F.slot_enumerate_next (wpAny_call_entry F.slot_enumerate_next ty F.entry_enumerate_next ?_ (F.args_enumerate_next_1 _))))
    show wpAny _ _ (field (.ref e) 2 >>= _) _ _ s
    refine wpAny_bind (wpAny_field (x := .ref z) he rfl rfl ?_)
    refine wpAny_bind (zs_nextOf_end (I.ok.hd hc) D hz ho hTI hTO t1 t2 p.isList p2.isList hen fun h' x kp hx' => ?_)
    obtain ⟨ob, hob, hcl⟩ := hx'
    refine wpAny_bind (wpAny_isInstance (T := "StopIteration") (b := true) ⟨ob, hob, hcl⟩ isSubtype_stop ?_)
    exact wpAny_pure ⟨rfl, I.turnedL (t' := s.toks) (ch := [e, z, TI, TO, i1, i2]) (fun c o hb q => kp c o (fun q' => hb (by simp [q'])) (fun q' => hb (by simp [q'])) (fun q' => hb (by simp [q'])) (fun q' => hb (by simp [q'])) q) hf⟩
  self := by
    rintro A i s Q E ⟨⟨old, he⟩, _⟩ h
    exact wpAny_pyIter_enum he h
theorem made_enumZ (z TI TO : Addr) : Meets (Builtin.«enumerate.__new__» ⟨[.type "enumerate", .ref z], []⟩)
    (fun _ R s => IsZip s.heap z TI TO .none ∧ R (.ok (.ret (.ref s.heap.objs.size))) { s with heap := s.heap.push (enumAt z) }) := by
  refine .of_wp fun prog w A R s q => ?_
  rcases s with ⟨h0, gs, dr, tk, os⟩
  rcases q with ⟨ht, q⟩
  have known := sub_enumerate
  have begins : ∀ {A' : Around} {E : Value → Shared → Prop} {Q : Value → Shared → Prop}, Q (.ref z) ⟨h0, gs, dr, tk, os⟩ → wpAny (model prog w) A' (pyIter (.ref z)) Q E ⟨h0, gs, dr, tk, os⟩ :=
    fun zz => wpAny_pyIter_zip (s := ⟨h0, gs, dr, tk, os⟩) ht zz
  wp_walk using begins
  refine wpAny_stack_any fun st => wpAny_pure ?_
  split
  · rename_i cl _ _ _ _ _
    cases (cl == Value.type "enumerate") <;> (wp_walk using begins; exact ⟨_, rfl, q⟩)
  · wp_walk using begins
    exact ⟨_, rfl, q⟩
theorem call_enumZ {prog : Program} {w : World} {A : Around} {E : Value → Shared → Prop} {s : Shared} {z TI TO : Addr} {Q : Value → Shared → Prop} (ht : IsZip s.heap z TI TO .none)
    (q : ∀ h', IsEnum h' s.heap.objs.size z 0 .none → (∀ b o, s.heap.get? b = some o → h'.get? b = some o) → Q (.ref s.heap.objs.size) { s with heap := h' }) :
    wpAny (model prog w) A (call (.type "enumerate") [.ref z]) Q E s := by
  have at1 : IsEnum (s.heap.push (enumAt z)) s.heap.objs.size z 0 .none := Heap.get?_push_size s.heap (o := enumAt z) rfl
  have fin := q _ at1 fun b o zz => Heap.get?_push_of_some _ zz
  exact callType_new F.called_enumerate (by decide) (F.typeCall_enumerate_1 _) (F.newCall_enumerate_1 _) (fun ob => F.args_object_init_2 ob _) F.entry_enumerate_new (made_enumZ z TI TO) ⟨ht, ⟨_, at1, rfl⟩, fin⟩
def iEnumZ (K : PySem.W.Frag) (ta : TA) : TI := fun σ H R => ta σ H fun vs H1 => ∃ a b xs ys, vs = [.ref a, .ref b] ∧ SqL K H1 a xs ∧ SqL K H1 b ys ∧ R (ItEZ K a b) H1
theorem pi_enumZ {X : Cx} {e e2 : Expr} {ta : TA} {p p2 pos pos2 tpos : Pos} {elts : List Expr} {kk : Nat} (hg : Gl X "enumerate") (hm : X.mg "enumerate" = none) (hg2 : Gl X "zip") (hm2 : X.mg "zip" = none) (ha : PA X [e, e2] ta)
    (one : starEach [(.Call (.Name "zip" p2) [e, e2] [] pos2)] X.env = [(false, eval (.Call (.Name "zip" p2) [e, e2] [] pos2) X.env)] := by rfl)
    (hs : starEach [e, e2] X.env = (false, eval e X.env) :: starEach [e2] X.env := by rfl) (hpl : (backTo pos2 (starEach [e2] X.env)).any (·.1) = false := by rfl) :
    PI X (.Tuple elts kk tpos) (.Call (.Name "enumerate" p) [.Call (.Name "zip" p2) [e, e2] [] pos2] [] pos) (iEnumZ X.K ta) := by
  constructor
  intro pins s σ H R I q
  refine Call_ (ld_blt I hg hm boot_enumerate (PyProof.Rows.callWith_type1 ?_ one rfl))
  rw [one]
  show wpAny _ _ (spliced ((false, eval (.Call (.Name "zip" p2) [e, e2] [] pos2) X.env) :: [])) _ _ s
  refine Calls.spliced_cons (Call_ (ld_blt I hg2 hm2 PyProof.Rows.boot_zip (PyProof.Rows.callWith_type1 (thn (ha.run pos2 pins s σ H _ I q) ?_) hs hpl)))
  rintro us s1 ⟨vs, H1, I1, r1, a, b, xs, ys, rfl, hqx, hqy, fin⟩
  cases r1 with
  | cons r rr =>
    cases rr with
    | cons r' rr =>
      cases rr
      cases r
      cases r'
      obtain ⟨its, rv, p1, _⟩ := I1.list hqx
      obtain ⟨its2, rv2, p2, _⟩ := I1.list hqy
      have la : a < s1.heap.objs.size := p1.lt
      have lb : b < s1.heap.objs.size := p2.lt
      refine call_zip_2 p1.isList p2.isList fun h' hz hTI hTO h1 h2 hsz hk => Calls.spliced_nil ?_
      refine call_enumZ (s := { s1 with heap := h' }) hz fun h3 he hk3 => wpAny_pyIter_enum he ?_
      have I2 : Inv X pins σ H1 { s1 with heap := h3 } := I1.kept (t' := s1.toks) fun c o q => hk3 c o (hk c o q)
      have E5 : (Shared.heap { s1 with heap := h' }).objs.size = s1.heap.objs.size + 5 := hsz
      rw [E5] at he ⊢
      refine ⟨s1.heap.objs.size + 5, [s1.heap.objs.size + 5, s1.heap.objs.size + 4, s1.heap.objs.size + 2, s1.heap.objs.size + 3, s1.heap.objs.size, s1.heap.objs.size + 1], _, _, H1, rfl, I2, turn_enumZ (PySem.W.ktu_apart s1.heap.objs.size a b la lb) (apart5 s1.heap.objs.size),
        ⟨⟨.none, he⟩, ⟨.none, false, .inl rfl, hk3 _ _ hz⟩, hk3 _ _ hTI, ⟨_, _, hk3 _ _ hTO⟩, h1.at fun o q => hk3 _ o q, h2.at fun o q => hk3 _ o q⟩, fun c hcm => ?_, fin⟩
      have le : s1.heap.objs.size ≤ c := by
        simp only [List.mem_cons, List.not_mem_nil, or_false] at hcm
        rcases hcm with q | q | q | q | q | q <;> (rw [q]; first | exact Nat.le_add_right _ _ | exact Nat.le_refl _)
      exact I1.fpOk le (I1.hok.fresh le)
def iEnZ (a : SA) : SI := fun ρ => match a ρ with
  | some ([.lst xs, .lst ys], ρ') => some (enumF 0 (zipD xs ys), ρ')
  | _ => none
section
variable {c : Ctx} {X : Cx}
theorem yields_enumZ {K : PySem.W.Frag} {F0 : Hp} {a b : Addr} {us ws : List V} {ds es : List D} (h : F0 a = some (.lst us)) (r : Reps c.G F0 us ds) (h' : F0 b = some (.lst ws)) (r' : Reps c.G F0 ws es) : Yields c.G (ItEZ K a b) F0 (enumF 0 (zipD ds es)) := by
  intro F H e1 e2
  have hH : SqL K H a us := .of (e2 _ _ (e1 _ _ h))
  have hH' : SqL K H b ws := .of (e2 _ _ (e1 _ _ h'))
  refine ⟨fun i d hd => ?_, us, ws, hH, hH', by rw [enumF_length, zipD_length, r.length, r'.length]; omega⟩
  rw [enumF_get] at hd
  cases ez : (zipD ds es)[i]? with
  | none => rw [ez] at hd; cases hd
  | some d0 =>
    rw [ez] at hd; cases hd
    obtain ⟨x, y, g1, g2, rfl⟩ := zipD_get ez
    obtain ⟨v, h1, h2⟩ := r.get g1
    obtain ⟨v', h1', h2'⟩ := r'.get g2
    refine ⟨⟨us, ws, v, v', hH, hH', h1, h1'⟩, fun q H' yy => ?_⟩
    obtain ⟨T1, T2, w, w', y1, y2, y3, y4, y5, y6, y7⟩ := yy
    have := y6 us hH
    rw [h1] at this; cases this
    have := y7 ws hH'
    rw [h1'] at this; cases this
    subst y1 y5
    have G1 : Grow F H (upd F T1 (.tup [v, v'])) (upd H T1 (.tup [v, v'])) := .new e2 y2
    have n2 : (upd H T1 (.tup [v, v'])) T2 = none := by rw [upd_ne y4.symm]; exact y3
    have G2 := Grow.new (o := .tup [.int (i : Nat), .ref T1]) G1.fh n2
    have ex := Ext.upd (o := .tup [v, v']) (ext_none e2 y2)
    have ex2 := Ext.upd (o := .tup [.int (i : Nat), .ref T1]) (ext_none G1.fh n2)
    refine ⟨_, G1.trans G2, .tup upd_same (.cons ?_ (.cons ?_ .nil))⟩
    · rw [Nat.zero_add]
      exact .int _
    · refine .tup (ex2 _ _ upd_same) (.cons (((h2.ext e1).ext ex).ext ex2) (.cons (((h2'.ext e1).ext ex).ext ex2) .nil))
theorem vi_enumZ {e e2 : Expr} {sa : SA} {p p2 pos pos2 tpos : Pos} {elts : List Expr} {kk : Nat} (hm : X.mg "enumerate" = none) (hm2 : X.mg "zip" = none) (ha : PA X [e, e2] (va c sa)) (hg : Gl X "enumerate" := by rfl) (hg2 : Gl X "zip" := by rfl)
    (one : starEach [(.Call (.Name "zip" p2) [e, e2] [] pos2)] X.env = [(false, eval (.Call (.Name "zip" p2) [e, e2] [] pos2) X.env)] := by rfl)
    (hs : starEach [e, e2] X.env = (false, eval e X.env) :: starEach [e2] X.env := by rfl) (hpl : (backTo pos2 (starEach [e2] X.env)).any (·.1) = false := by rfl) :
    PI X (.Tuple elts kk tpos) (.Call (.Name "enumerate" p) [.Call (.Name "zip" p2) [e, e2] [] pos2] [] pos) (vi c (iEnZ sa)) :=
  pi_of (pi_enumZ hg hm hg2 hm2 ha one hs hpl) fun σ H R ⟨F, ρ, I, ds, ρ', e, q⟩ => by
    unfold iEnZ at e
    split at e
    · rename_i xs ys ρ1 e1
      cases e
      refine ⟨F, ρ, I, _, ρ', e1, fun vs H1 F1 x1 I1 r1 => ?_⟩
      obtain ⟨v, v', ev, r, r'⟩ := reps2 r1
      cases r with
      | lst h1 rs =>
        cases r' with
        | lst h2 rs' => exact ⟨_, _, _, _, ev, .of (I1.fh _ _ h1), .of (I1.fh _ _ h2), q _ _ F1 x1 I1 (yields_enumZ h1 rs h2 rs')⟩
    · cases e
end
end VS

set_option Elab.async false
set_option linter.all false
set_option maxRecDepth 100000
set_option maxHeartbeats 4000000
namespace VS
open PySem PySem.Spec PyProof.Rows L2
theorem ve_glob {c : Ctx} {X : Cx} {x : Str} {d : Str} {p : Pos} (h : ∃ u, X.mg x = some u ∧ RelV (.str d) u) (hg : Gl X x := by rfl) (hd : (x == ("__debug__" : Str)) = false := by decide) : PE X (.Name x p) (vt c (sK (.str d))) := by
  obtain ⟨u, h1, h2⟩ := h
  exact ve_k (pe_glob hg h1 h2 hd) fun _ => .str d
def chars (x : Str) : List D := x.cps.toList.map fun c => .str ⟨#[c]⟩
def iStr (a : SE) : SI := fun ρ => match a ρ with
  | some (.str x, ρ') => some (chars x, ρ')
  | _ => none
theorem yields_str {G : Gx} {F0 : Hp} (x : Str) : Yields G (Its x) F0 (chars x) := by
  intro F H e1 e2
  refine ⟨fun i d hd => ?_, by show x.cps.size ≤ _; simp [chars]⟩
  unfold chars at hd
  rw [List.getElem?_map, Array.getElem?_toList] at hd
  cases e : x.cps[i]? with
  | none => rw [e] at hd; cases hd
  | some ch =>
    rw [e] at hd; cases hd
    refine ⟨(Array.getElem?_eq_some_iff.mp e).1, fun v H' y => ?_⟩
    obtain ⟨rfl, ch', h1, rfl⟩ := y
    rw [e] at h1; cases h1
    exact ⟨F, .refl e2, .str _⟩
theorem vi_str {c : Ctx} {X : Cx} {tg e : Expr} {a : SE} (h : PE X e (vt c a)) : PI X tg e (vi c (iStr a)) := pi_of (pi_str h) fun σ H R ⟨F, ρ, I, ds, ρ', e, q⟩ => by
  unfold iStr at e
  split at e
  · rename_i x ρ1 e1
    cases e
    refine ⟨F, ρ, I, _, ρ', e1, fun v H1 F1 x1 I1 r1 => ?_⟩
    cases r1
    exact ⟨_, rfl, q _ _ F1 x1 I1 (yields_str _)⟩
  · cases e
def fuelI (j : Nat) : Rho → Nat := fun ρ => match ρ[j]? with
  | some (.val (.int n)) => n.natAbs + 2
  | _ => 0
theorem bt_len : bootBuiltins "len" = some (.builtin "len") := by decide +kernel
theorem bt_abs : bootBuiltins "abs" = some (.builtin "abs") := by decide +kernel
theorem bt_max : bootBuiltins "max" = some (.builtin "max") := by decide +kernel
theorem bt_sorted : bootBuiltins "sorted" = some (.builtin "sorted") := by decide +kernel
theorem bt_int : bootBuiltins "int" = some (.type "int") := by decide +kernel
theorem bt_list : bootBuiltins "list" = some (.type "list") := by decide +kernel
theorem bt_tuple : bootBuiltins "tuple" = some (.type "tuple") := by decide +kernel
theorem bt_ty0 : bootBuiltins "bool" = some (.type (tyName 0)) := by decide +kernel
theorem bt_ty1 : bootBuiltins "int" = some (.type (tyName 1)) := by decide +kernel
theorem bt_ty2 : bootBuiltins "str" = some (.type (tyName 2)) := by decide +kernel
theorem bt_ty3 : bootBuiltins "list" = some (.type (tyName 3)) := by decide +kernel
theorem bt_ty4 : bootBuiltins "tuple" = some (.type (tyName 4)) := by decide +kernel
end VS

set_option Elab.async false
set_option linter.all false
set_option maxRecDepth 100000
set_option maxHeartbeats 4000000
namespace VS
open PySem PySem.Spec PyProof.Rows L2
def gEqL : G2
  | .lst xs, .lst [] => some (.bl xs.isEmpty)
  | _, _ => none
theorem op_eqLen {X : Cx} (hu : X.A.units + 64 < cLine) : OpR X (compareOp .Eq) (fun x y H Q => ∃ a b xs ys, x = .ref a ∧ y = .ref b ∧ SqL X.K H a xs ∧ SqL X.K H b ys ∧ xs.length ≠ ys.length ∧ Q (.bl false) H) := by
  intro pins s σ H x y v u Q I rx ry h
  obtain ⟨a, b, xs, ys, rfl, rfl, hx, hy, hne, q⟩ := h
  cases rx
  cases ry
  obtain ⟨its, rv, p, _⟩ := I.list hx
  obtain ⟨its2, rv2, p2, _⟩ := I.list hy
  have l1 := rv.length
  have l2 := rv2.length
  refine SeqAt.eq_list_lengthsAt p.isList p2.isList ?_ (by omega) ⟨.bl false, H, I, rfl, q⟩
  simp
  omega
theorem od_eqL {c : Ctx} {X : Cx} (hu : X.A.units + 64 < cLine) : OpD c X (compareOp .Eq) gEqL := opr_of ((op_eqLen hu).or (op_eqD hu)) fun x y H Q ⟨F, a, b, d, e, ra, rb, hg, q⟩ => by
  unfold gEqL at hg
  split at hg
  · rename_i xs
    cases hg
    cases ra with
    | lst h1 r1 =>
      cases rb with
      | lst h2 r2 =>
        cases r2
        cases r1 with
        | nil => exact .inr ⟨.list [], .list [], (Rep.lst (G := c.G) h1 .nil).dp (x := .list []) e rfl, (Rep.lst (G := c.G) h2 .nil).dp (x := .list []) e rfl, by decide, by decide, q.here e (.bl _)⟩
        | cons r r' => exact .inl ⟨_, _, _, _, rfl, rfl, .of (e _ _ h1), .of (e _ _ h2), by simp, q.here e (.bl _)⟩
  · cases hg
end VS

set_option Elab.async false
set_option linter.all false
set_option maxRecDepth 100000
set_option maxHeartbeats 4000000
namespace VS
open PySem PySem.Spec PyProof.Rows L2
section
variable {c : Ctx} {X : Cx}
end
end VS

set_option Elab.async false
set_option linter.all false
set_option maxRecDepth 100000
set_option maxHeartbeats 4000000
namespace VS
open PySem PySem.Spec PyProof.Rows L2
section
variable {prog : Program} {w : World} {A : Around} {E : Value → Shared → Prop} {s : Shared}
end
section
variable {X : Cx} {te : TE}
end
theorem Reps.reverse {G : Gx} {F : Hp} : ∀ {vs : List V} {ds : List D}, Reps G F vs ds → Reps G F vs.reverse ds.reverse
  | _, _, .nil => .nil
  | _, _, .cons h r => by
    rw [List.reverse_cons, List.reverse_cons]
    exact (Reps.reverse r).append (.one h)
section
variable {c : Ctx} {X : Cx}
end
end VS

set_option Elab.async false
set_option linter.all false
set_option maxRecDepth 100000
set_option maxHeartbeats 4000000
namespace VS
open PySem PySem.Spec PyProof.Rows L2
end VS

set_option Elab.async false
set_option linter.all false
set_option maxRecDepth 100000
set_option maxHeartbeats 4000000
namespace VS
open PySem PySem.Spec PyProof.Rows L2
structure FnG (P : Program) (w : World) (K : PySem.W.Frag) (mg : Str → Option Value) (base : Heap) (k : Nat) (f : Addr) (fd : FuncData) (ps : List Str) (sp : Sp) : Prop where
  len : ∀ vs H Q E, sp vs H Q E → vs.length = ps.length
  run : ∀ (A : Around) (outer : List Env) (s : Shared) (H : Hp) (args : Args) (us : List Value) (vs : List V) (Q : VK) (E : XK), A.guards = some [] → Room k A → Env0 P w K mg base A outer s H → BindsTo s fd args (ps.zip us) → Vals vs us → sp vs H Q E →
    codeAny (model P w) A (.call (.ref f) args) (CR CX0 outer P w H s Q E) s
theorem FnG.imp {P : Program} {w : World} {K : PySem.W.Frag} {mg : Str → Option Value} {base : Heap} {k : Nat} {f : Addr} {fd : FuncData} {ps : List Str} {sp sp' : Sp} (F : FnG P w K mg base k f fd ps sp) (h : ∀ vs H Q E, sp' vs H Q E → sp vs H Q E) : FnG P w K mg base k f fd ps sp' where
  len vs H Q E q := F.len vs H Q E (h _ _ _ _ q)
  run A outer s H args us vs Q E g r e b v q := F.run A outer s H args us vs Q E g r e b v (h _ _ _ _ q)
theorem fnG_of {P : Program} {w : World} {G : Gx} {mg : Str → Option Value} {base : Heap} {x qual : Str} {st : Stmt} {f : Addr} {fd : FuncData} {N ps : List Str} {k : Nat} {sp : Sp} (F : Fun G.K x qual st f fd) (S : FnScope N ps (defScope st)) (len : ∀ vs H Q E, sp vs H Q E → vs.length = ps.length)
    (hb : ∀ (cdv : Value) (A : Around) (outer : List Env) (s : Shared) (H : Hp) (vs : List V) (Q : VK) (E : XK), (A.deeper (envOfC qual (defScope st) s.heap.objs.size f cdv)).guards = some [] → Room k (A.deeper (envOfC qual (defScope st) s.heap.objs.size f cdv)) → sp vs H Q E →
      ∃ t, PSs (cxOf CX0 P w G.K mg base N qual (defScope st) f cdv A outer s H E).nox (defBody st) t ∧ t { nx := fun _ H' => Q .non H', rt := Q } (L2.start N vs) H) : FnG P w G.K mg base (k + 1) f fd ps sp := by
  obtain ⟨oc, od, kV, doc, pm, an, cdv, ct, osl, rfl, lk, hcd⟩ := F.ex
  refine ⟨len, fun A outer s H args us vs Q E hg hr e0 bd r hsp => ?_⟩
  have hl := len _ _ _ _ hsp
  have up : ∀ b o, base.get? b = some o → s.heap.get? b = some o := fun b o e => (e0.bs b o e).1
  have KX : G.K.In s.heap := e0.mod.kin.keeps up
  have kinds : ∀ y ∈ ps.zip us, (defScope st).names.lookup y.1 = some .local ∨ ((defScope st).names.lookup y.1 = some .cell ∧ ((cellsFrom (s.heap.objs.size + 1) (defScope st).names []).lookup y.1).isSome = true) := fun y hy =>
    (S.par y.1 (List.of_mem_zip hy).1).elim .inl fun q => .inr ⟨q, PySem.W.cellsFrom_some _ _ _ (.inl q)⟩
  refine codeAny_call_function hr.depth (KX _ _ lk) rfl S.co S.gen rfl (PySem.W.codeRec_of KX hcd) (bd _ _ _ _ (wpAny_newFunctionEnv_cells S.kind kinds fun env he s1 x => ?_))
  subst he
  refine ⟨(e0.mod.nolimit.keeps up).keeps x.toInCall.keep, codeAny_func ?_⟩
  obtain ⟨t, ht, hq⟩ := hb cdv A outer s H vs Q E hg (hr.deeper _) hsp
  have I : Inv (cxOf CX0 P w G.K mg base N qual (defScope st) f cdv A outer s H E) [] (L2.start N vs) H s1 := inv_start S hr.hd e0 hl r x
  refine wpAny_mono (ht.nox.run [] s1 (L2.start N vs) H _ I hq) (fun fl s' hs => ?_) fun e s' hs => hs
  have fin : ∀ {σ' : L2.St} {H' : Hp} {v : V} {u : Value}, Inv (cxOf CX0 P w G.K mg base N qual (defScope st) f cdv A outer s H E) [] σ' H' s' → RelV v u → Q v H' → CE outer P w H s Q u s' := fun {σ' H' v u} J rv q => ⟨v, H', J.os, J.bare, J.base, J.hok, rv, q⟩
  match fl, hs with
  | .ret u, hs =>
    obtain ⟨v, σ', H', J, rv, q⟩ := hs
    exact fin J rv q
  | .next, hs =>
    obtain ⟨σ', H', J, q⟩ := hs
    exact fin (v := V.non) (u := Value.none) J rfl q
  | .brk, hs => exact hs.elim fun _ z => z.elim fun _ z => z.2.elim
  | .cont, hs => exact hs.elim fun _ z => z.elim fun _ z => z.2.elim
section
variable {X : Cx} {k : Nat} {f : Addr} {fd : FuncData} {ps : List Str} {sp : Sp} {x : Str} {p pos : Pos} {e : Expr} {es : List Expr} {t : TA}
theorem run_fnG {pins : List (Addr × Obj)} {σ : L2.St} {H : Hp} {s : Shared} {Q : VK} {us : List Value} {vs : List V} (F : FnG X.prog X.w X.K X.mg X.base k f fd ps sp) (hg : X.A.guards = some []) (hr : Room k X.A) (hb : Binds X.K fd ps []) (I : Inv X pins σ H s) (r : Vals vs us) (h : sp vs H Q E0) :
    wpAny (model X.prog X.w) X.A (call (.ref f) us) (EP X pins σ Q) X.xe s := by
  have hl : (us ++ []).length = ps.length := by rw [List.append_nil, ← r.length]; exact F.len _ _ _ _ h
  have b := hb s us I.kIn hl
  rw [List.append_nil] at b
  refine wpAny_call (codeAny_mono (F.run X.A X.stack s H ⟨us, []⟩ us vs Q E0 hg hr I.env0 b r h) fun r s' hq => ?_)
  match r, hq with
  | .error e, hq => exact hq.elim
  | .ok (.ret u), hq => exact I.after hq
  | .ok .next, hq => exact False.elim hq
  | .ok .brk, hq => exact False.elim hq
  | .ok .cont, hq => exact False.elim hq
theorem pe_callG (F : FnG X.prog X.w X.K X.mg X.base k f fd ps sp) (hgd : X.A.guards = some []) (hr : Room k X.A) (hg : Gl X x) (hm : X.mg x = some (.ref f)) (hk : PySem.W.keepIn X.K (.ref f) = true) (hb : Binds X.K fd ps [])
    (ha : PA X (e :: es) t) (hdb : (x == ("__debug__" : Str)) = false := by decide) (he : starEach (e :: es) X.env = (false, eval e X.env) :: starEach es X.env := by rfl) (hpl : (backTo pos (starEach es X.env)).any (·.1) = false := by rfl) :
    PE X (.Call (.Name x p) (e :: es) [] pos) (tCall sp [] E0 t) := by
  refine ⟨fun pins s σ H Q I h => ?_⟩
  refine wpAny_Call_Name_kw (ld_glob I hg hm ?_ hdb)
  refine PySem.W.callWith_K (h₀ := X.base) I.ok.mod.kin hk (thn (ha.run pos pins s σ H _ I h) fun us s1 ⟨vs, H1, I1, r, q⟩ => ⟨I1.kIn, ?_⟩) he hpl
  refine run_fnG F hgd hr hb I1 r ?_
  have q' : sp (vs ++ []) H1 Q E0 := q
  rw [List.append_nil] at q'
  exact q'
end
section
variable {c : Ctx} {X : Cx} {x : Str} {p pos : Pos} {e : Expr} {es : List Expr} {k n : Nat} {m : Mir}
end
end VS

set_option Elab.async false
set_option linter.all false
set_option maxRecDepth 100000
set_option maxHeartbeats 4000000
namespace VS
open PySem PySem.Spec PyProof.Rows L2
section
variable {c : Ctx} {X : Cx} {x : Str} {p pos : Pos} {e e2 : Expr} {i : Nat} {sa : SA}
theorem LamAt.fn {G : Gx} {F H : Hp} {f : Addr} {h : D → D → Option D} (l : LamAt G F H f h) {pins : List (Addr × Obj)} {σ : L2.St} {s : Shared} (I : Inv X pins σ H s) : PySem.W.FnAt f s.heap := by
  obtain ⟨L, l1, ⟨oc, od, fd, sl, hm⟩, _⟩ := l
  obtain ⟨k1, _, _⟩ := l1 _ hm
  obtain ⟨k2, _⟩ := I.hok _ _ k1
  exact ⟨oc, od, fd, sl, k2⟩
end
end VS

set_option Elab.async false
set_option linter.all false
set_option maxRecDepth 100000
set_option maxHeartbeats 4000000
namespace VS
open PySem PySem.Spec PyProof.Rows L2 NdefX
section
variable {P : Program} {w : World} {cs : List Addr} {H H0 H1 : Hp} {h h1 : Heap}
end
section
variable {G : Gx} {F0 : Hp} {f : Addr} {N : List Str} {p1 p2 : Str} {fr : List Str} {q : Str} {params : Arguments} {body : Expr} {scope : Scope} {cl : List (Str × Addr)} {c' : Addr} {pm ctv : Value} {k : Nat} {sb : SE} {ds : List D} {vs : List V} {hp0 : Heap}
end
end VS

set_option Elab.async false
set_option linter.all false
set_option maxRecDepth 100000
set_option maxHeartbeats 4000000
namespace VS
open PySem PySem.Spec PyProof.Rows L2 NdefX
section
variable {X : Cx} {pins : List (Addr × Obj)} {σ : L2.St} {H : Hp} {s : Shared}
end
section
variable {c : Ctx} {X : Cx} {x : Str} {e : Expr} {sa sb : SE} {m : Mir} {k n : Nat} {js : List Nat} {N fr : List Str} {p1 p2 : Str} {params : Arguments} {body : Expr} {scope : Scope} {lpos p pos : Pos} {cd P : Addr}
end
end VS

set_option Elab.async false
set_option linter.all false
set_option maxRecDepth 100000
set_option maxHeartbeats 4000000
namespace VS
open PySem PySem.Spec PyProof.Rows L2
mutual
def keyD : D → Option NestedKey
  | .non => some .none
  | .int i => some (.num i)
  | .str x => some (.text x)
  | .tup ds => match keyDs ds with
    | some ks => some (.tup ks)
    | none => none
  | _ => none
def keyDs : List D → Option (List NestedKey)
  | [] => some []
  | d :: ds => match keyD d, keyDs ds with
    | some k, some ks => some (k :: ks)
    | _, _ => none
end
mutual
theorem Rep.key {G : Gx} {F : Hp} : ∀ {v : V} {d : D} {k : NestedKey}, Rep G F v d → keyD d = some k → KV1 F v k
  | _, _, _, .non, h => by unfold keyD at h; cases h; exact .non
  | _, _, _, .bl b, h => by unfold keyD at h; cases h
  | _, _, _, .int i, h => by unfold keyD at h; cases h; exact .int i
  | _, _, _, .str x, h => by unfold keyD at h; cases h; exact .str x
  | _, _, _, .adr a, h => by unfold keyD at h; cases h
  | _, _, _, .lst _ _, h => by unfold keyD at h; cases h
  | _, _, _, .scr _ _, h => by unfold keyD at h; cases h
  | _, _, _, .tup (ds := ds) h1 r, h => by
    unfold keyD at h
    cases e : keyDs ds with
    | none => rw [e] at h; cases h
    | some ks => rw [e] at h; cases h; exact .tup h1 (Reps.keys r e)
  | _, _, _, .ins _ _ _, h => by unfold keyD at h; cases h
  | _, _, _, .dct _ _, h => by unfold keyD at h; cases h
  | _, _, _, .exc _ _ _, h => by unfold keyD at h; cases h
  | _, _, _, .bth _, h => by unfold keyD at h; cases h
theorem Reps.keys {G : Gx} {F : Hp} : ∀ {vs : List V} {ds : List D} {ks : List NestedKey}, Reps G F vs ds → keyDs ds = some ks → KV1s F vs ks
  | _, _, _, .nil, h => by unfold keyDs at h; cases h; exact .nil
  | _, _, _, .cons (d := d) (ds := ds) h1 r, h => by
    unfold keyDs at h
    cases e1 : keyD d with
    | none => rw [e1] at h; cases h
    | some k =>
      cases e2 : keyDs ds with
      | none => rw [e1, e2] at h; cases h
      | some ks => rw [e1, e2] at h; cases h; exact .cons (Rep.key h1 e1) (Reps.keys r e2)
end
mutual
theorem KV1.is {P : Program} {w : World} {F H : Hp} {h : Heap} (ok : HOk P w H h) (e : Ext F H) : ∀ {v : V} {k : NestedKey} {u : Value}, KV1 F v k → RelV v u → NestedIs h k u
  | _, _, u, .non, r => by
    obtain rfl : u = Value.none := r
    exact .none
  | _, _, u, .int i, r => by
    obtain ⟨t, rfl⟩ := r
    exact .int i t
  | _, _, u, .str x, r => by
    obtain ⟨t, rfl⟩ := r
    exact .text x t
  | _, _, u, .tup (a := a) (vs := vs) h1 r1, r => by
    obtain rfl : u = Value.ref a := r
    obtain ⟨_, its, rv, o, e1, e2, n, e3⟩ := ok a _ (e _ _ h1)
    exact .tup e1 e2 e3 (by simpa using KV1s.is ok e r1 rv)
theorem KV1s.is {P : Program} {w : World} {F H : Hp} {h : Heap} (ok : HOk P w H h) (e : Ext F H) : ∀ {vs : List V} {ks : List NestedKey} {us : List Value}, KV1s F vs ks → Vals vs us → NestedAll h ks us
  | _, _, _, .nil, r => by cases r; exact .nil
  | _, _, _, .cons h1 r1, r => by
    cases r with
    | cons a b => exact .cons (KV1.is ok e h1 a) (KV1s.is ok e r1 b)
end
theorem KV1.key {F : Hp} {v : V} {q : Key} (h : KV1 F v (nkOf q)) : v = kV q := by
  cases q with
  | inl i => generalize e : nkOf (.inl i) = k at h; cases h <;> cases e; rfl
  | inr x => generalize e : nkOf (.inr x) = k at h; cases h <;> cases e; rfl
theorem KV1.ref {F : Hp} {v : V} {ks : List NestedKey} (h : KV1 F v (.tup ks)) : ∃ a, v = .ref a := by
  cases h with
  | tup h1 r => exact ⟨_, rfl⟩
def lkN : List NestedKey → List D → NestedKey → Option D
  | a :: ks, d :: ds, k => if a = k then some d else lkN ks ds k
  | _, _, _ => none
def pkN (ks : List NestedKey) (k : NestedKey) : List NestedKey := if k ∈ ks then ks else ks ++ [k]
def mpN : List NestedKey → List D → NestedKey → D → List D
  | a :: ks, x :: ds, k, d => (if a = k then d else x) :: mpN ks ds k d
  | _, _, _, _ => []
def pvN (ks : List NestedKey) (ds : List D) (k : NestedKey) (d : D) : List D := if k ∈ ks then mpN ks ds k d else ds ++ [d]
section
variable {G : Gx} {F : Hp}
end
section
variable {X : Cx} {pins : List (Addr × Obj)} {σ : L2.St} {H : Hp} {s : Shared}
end
end VS

set_option Elab.async false
set_option linter.all false
set_option maxRecDepth 100000
set_option maxHeartbeats 4000000
namespace VS
open PySem PySem.Spec PyProof.Rows L2
section
variable {c : Ctx} {X : Cx}
end
end VS

set_option Elab.async false
set_option linter.all false
set_option maxRecDepth 100000
set_option maxHeartbeats 4000000
namespace VS
open PySem PySem.Spec PyProof.Rows L2
section
variable {P : Program} {w : World} {K : PySem.W.Frag} {tg : Expr} {d : Addr} {od : Obj} {es : Array DictEntry} {ep : Nat}
end
theorem Reps.at {G : Gx} {F : Hp} : ∀ {vs : List V} {ds : List D} {i : Nat} {v : V} {d : D}, Reps G F vs ds → vs[i]? = some v → ds[i]? = some d → Rep G F v d
  | _, _, _, _, _, .nil, h, _ => by simp at h
  | _, _, 0, _, _, .cons h _, e1, e2 => by
    rw [List.getElem?_cons_zero] at e1 e2
    cases e1; cases e2; exact h
  | _, _, i + 1, _, _, .cons _ r, e1, e2 => by
    rw [List.getElem?_cons_succ] at e1 e2
    exact Reps.at r e1 e2
theorem Vals.at {vs : List V} : ∀ {us : List Value} {i : Nat} {u : Value}, Vals vs us → us[i]? = some u → ∃ v, vs[i]? = some v ∧ L2.RelV v u := by
  induction vs with
  | nil => intro us i u h e; cases h; simp at e
  | cons v vs ih =>
    intro us i u h e
    cases h with
    | cons a b =>
      cases i with
      | zero => rw [List.getElem?_cons_zero] at e; cases e; exact ⟨v, rfl, a⟩
      | succ i => rw [List.getElem?_cons_succ] at e; exact ih b e
section
variable {X : Cx} {pins : List (Addr × Obj)} {σ : L2.St} {H : Hp} {s : Shared}
end
section
variable {c : Ctx} {X : Cx} {tg : Expr}
end
end VS

set_option Elab.async false
set_option linter.all false
set_option maxRecDepth 100000
set_option maxHeartbeats 4000000
namespace VS
open PySem PySem.Spec PyProof.Rows L2
section
variable {c : Ctx} {X : Cx}
end
section
variable {c : Ctx} {K : PySem.W.Frag}
end
section
variable {c : Ctx} {X : Cx}
end
end VS

set_option Elab.async false
set_option linter.all false
set_option maxRecDepth 100000
set_option maxHeartbeats 4000000
namespace VS
open PySem PySem.Spec PyProof.Rows L2
section
variable {X : Cx}
end
section
variable {c : Ctx} {K : PySem.W.Frag}
end
section
variable {c : Ctx} {X : Cx}
end
end VS

set_option Elab.async false
set_option linter.all false
set_option maxRecDepth 100000
set_option maxHeartbeats 4000000
namespace VS
open PySem PySem.Spec PyProof.Rows L2
section
variable {c : Ctx} {X : Cx}
end
end VS

set_option Elab.async false
set_option linter.all false
set_option maxRecDepth 100000
set_option maxHeartbeats 4000000
namespace VS
open PySem PySem.Spec PyProof.Rows L2
section
variable {c : Ctx} {X : Cx}
variable {k t : Nat} {m : Mir} {x : Str}
variable {a b : Expr} {sa sb : SE} {pos : Pos}
end
end VS

set_option Elab.async false
set_option linter.all false
set_option maxRecDepth 100000
set_option maxHeartbeats 4000000
namespace VS
open PySem PySem.Spec PyProof.Rows L2
section
variable {prog : Program} {w : World} {A : Around} {E : Value → Shared → Prop} {s : Shared} {K : PySem.W.Frag} {x y C f : Addr} {ox : Obj} {od : Option Obj}
end
section
variable {c : Ctx} {X : Cx} {k t : Nat} {m : Mir}
end
end VS

set_option Elab.async false
set_option linter.all false
set_option maxRecDepth 100000
set_option maxHeartbeats 4000000
namespace VS
open PySem PySem.Spec PyProof.Rows L2
theorem Keep.trans {T : List (Addr × Str)} {F H F1 H1 F2 H2 : Hp} (a : Keep T [] F H F1 H1) (b : Keep T [] F1 H1 F2 H2) : Keep T [] F H F2 H2 :=
  ⟨a.f.trans b.f, b.fh, fun p o h n nt => b.h p o (a.h p o h n nt) n nt, fun p o h => let ⟨o', e⟩ := a.a p o h; b.a p o' e, fun p o h n => let ⟨o', e⟩ := a.a p o h; b.n p o' e (a.n p o h n), fun t => b.t (a.t t)⟩
theorem Keep.same {T : List (Addr × Str)} {F H : Hp} (e : Ext F H) : Keep T [] F H F H := ⟨Ext.rfl', e, fun _ _ h _ _ => h, fun p o h => ⟨o, h⟩, fun _ _ _ n => n, id⟩
section
variable {c : Ctx} {X : Cx} {k t : Nat} {m : Mir}
end
end VS

set_option Elab.async false
set_option linter.all false
set_option maxRecDepth 100000
set_option maxHeartbeats 4000000
namespace VS
open PySem PySem.Spec PyProof.Rows L2
section
variable {c : Ctx} {X : Cx}
end
theorem bt_repr : bootBuiltins "repr" = some (.builtin "repr") := by decide +kernel
theorem hu100 {A : Around} {k : Nat} (hr : Room k A) : A.units + 100 < cLine := by have := hr.un; omega
theorem FnG.of {P : Program} {w : World} {K : PySem.W.Frag} {mg : Str → Option Value} {base : Heap} {k : Nat} {f : Addr} {fd : FuncData} {ps : List Str} {sp : Sp} (F : FnOk P w K mg base CX0 k f fd ps sp) : FnG P w K mg base k f fd ps sp :=
  ⟨F.len, fun A outer s H args us vs Q E _ hr e0 b r h => F.run A outer s H args us vs Q E hr e0 b r h⟩
def EndT (l : PySem.W.OpenLaw) (w : World) (K : PySem.W.Frag) (k : Nat) (x : Str) (mg : Str → Option Value) (fa : Addr) (xs : List Str) : Prop :=
  ∃ cs : List (Addr × Addr), (∀ p ∈ cs, ∃ x ∈ xs, PySem.W.tabIn K x = some p) ∧ (∀ p ∈ cs, K.lookup p.2 = none) ∧
  ∃ fd : FuncData, (∀ (s : Shared) (u : Value), BindsTo s fd ⟨[u], []⟩ [(x, u)]) ∧ ∀ base : Heap, K.In base → base.Ns mainGlobals mg → (∀ p ∈ cs, LamX.TabB base mg p.1 p.2) →
    ∃ G : Gx, G.K = K ∧ (∀ p ∈ G.T, p.1 ∈ cs.map (·.2)) ∧ FnG l.prog w K mg base k fa fd [x] (spLaw G)
theorem law_callT {P : Program} {w : World} {K : PySem.W.Frag} {mg mb : Str → Option Value} {k : Nat} {fa a : Addr} {cs : List (Addr × Addr)} {fd : FuncData} {x : Str} {s₁ : Shared} {us : List Value} {ns : List Int}
    (KX : K.In s₁.heap) (hns : s₁.heap.Ns mainGlobals mg) (hb : s₁.heap.Ns builtinsNs mb) (hbb : ∀ x : Str, x ≠ "__name__" → mb x = bootBuiltins x) (hlim : s₁.heap.NoLimit) (hg : s₁.gens = #[])
    (hT : ∀ p ∈ cs, s₁.heap.get? p.2 = some { cls := .none, data := .fields #[] }) (nT : ∀ p ∈ cs, K.lookup p.2 = none) (CH : ∀ p ∈ cs, PySem.W.CodeHd s₁.heap p.1 p.2)
    (hbm : ∃ (bm : Addr) (ob : Obj), mg "__builtins__" = some (.ref bm) ∧ bm ≠ builtinsNs ∧ s₁.heap.get? bm = some ob ∧ ob.cls = .type "module" ∧ ob.dict = some builtinsNs ∧ ob.data = .plain)
    (ha : s₁.heap.get? a = some { cls := .type "list", data := .seq us.toArray }) (hi : IntsAre us ns) (hl : ns.length ≤ 63) (hr : Room k callerA)
    (F : ∀ base : Heap, K.In base → base.Ns mainGlobals mg → (∀ p ∈ cs, LamX.TabB base mg p.1 p.2) → ∃ G : Gx, G.K = K ∧ (∀ p ∈ G.T, p.1 ∈ cs.map (·.2)) ∧ FnG P w K mg base k fa fd [x] (spLaw G)) (hbind : ∀ (s : Shared) (u : Value), BindsTo s fd ⟨[u], []⟩ [(x, u)]) :
    codeAny (model P w) callerA (.call (.ref fa) ⟨[.ref a], []⟩) (fun r s' => r = .ok (.ret (.bool true)) ∧ OldK s₁.heap s'.heap ∧ s'.os = s₁.os ∧ AllBare s'.gens) s₁ := by
  have rv := vals_ints hi
  have lenV := hi.length
  have ls : ns.length ≤ sizeLine := Nat.le_trans hl (by decide)
  generalize hts : cs.map (·.2) = ts
  have tsT : ∀ b, b ∈ ts → ∃ p ∈ cs, p.2 = b := fun b h => by rw [← hts] at h; obtain ⟨p, h1, h2⟩ := List.mem_map.mp h; exact ⟨p, h1, h2⟩
  have inT : ∀ p ∈ cs, p.2 ∈ ts := fun p h => by rw [← hts]; exact List.mem_map.mpr ⟨p, h, rfl⟩
  have isT : ∀ b, b ∈ ts → s₁.heap.get? b = some { cls := .none, data := .fields #[] } := fun b h => by obtain ⟨p, h1, h2⟩ := tsT b h; rw [← h2]; exact hT p h1
  have aT : a ∉ ts := fun z => by
    have q := isT a z
    rw [ha] at q
    have q' : Data.seq us.toArray _ = Data.fields #[] := congrArg Obj.data (Option.some.inj q)
    cases q'
  -- tracked: the tables, and the script's list where it is not of the written part
  have main : ∀ (tr : Bool), (tr = true → K.lookup a = none) → (tr = false → ∃ o, K.lookup a = some o ∧ o = { cls := .type "list", data := .seq us.toArray }) →
      codeAny (model P w) callerA (.call (.ref fa) ⟨[.ref a], []⟩) (fun r s' => r = .ok (.ret (.bool true)) ∧ OldK s₁.heap s'.heap ∧ s'.os = s₁.os ∧ AllBare s'.gens) s₁ := fun tr k1 k2 => by
    let lo : Obj := { cls := .type "list", data := .seq us.toArray }
    let H : Hp := fun b => if b ∈ ts then some (.tbl #[]) else if b = a ∧ tr = true then some (.frz lo (.lst (ns.map V.int))) else none
    have Ht : ∀ b, b ∈ ts → H b = some (.tbl #[]) := fun b h => if_pos h
    have Ha : tr = true → H a = some (.frz lo (.lst (ns.map V.int))) := fun h => (if_neg aT).trans (if_pos ⟨rfl, h⟩)
    have Hn : ∀ b, b ∉ ts → ¬ (b = a ∧ tr = true) → H b = none := fun b h1 h2 => (if_neg h1).trans (if_neg h2)
    have only : ∀ b, H b ≠ none → b ∈ ts ∨ (b = a ∧ tr = true) := fun b h => by
      by_cases z1 : b ∈ ts
      · exact .inl z1
      · by_cases z2 : b = a ∧ tr = true
        · exact .inr z2
        · exact absurd (Hn b z1 z2) h
    have hok : HOk P w H s₁.heap := fun b u e => by
      by_cases z1 : b ∈ ts
      · rw [Ht b z1] at e; cases e; exact isT b z1
      · by_cases z2 : b = a ∧ tr = true
        · rw [z2.1, Ha z2.2] at e
          cases e
          rw [z2.1]
          exact ⟨ha, by rw [List.length_map]; exact ls, us, _, rv, ha⟩
        · rw [Hn b z1 z2] at e; cases e
    have hS : SqL K H a (ns.map V.int) := by
      cases tr with
      | true => exact .inl (.inr ⟨lo, Ha rfl⟩)
      | false =>
        obtain ⟨o, q1, q2⟩ := k2 rfl
        subst q2
        exact .inr ⟨_, us.toArray, _, q1, rfl, rfl, rfl, by rw [List.size_toArray, lenV]; exact ls, by simpa using rv⟩
    have hid : ∀ {b : Addr} {o : Obj}, s₁.heap.get? b = some o → H b = none → (hidT s₁.heap H).get? b = some o := fun e n => hidT_get e n
    have free : ∀ {b : Addr} {o : Obj}, s₁.heap.get? b = some o → (∀ vs n, o.data ≠ .seq vs n) → o.data ≠ .fields #[] → H b = none := fun {b o} e h1 h2 => Classical.byContradiction fun q => by
      rcases only b q with z | ⟨z, _⟩
      · rw [isT b z] at e; cases e; exact h2 rfl
      · rw [z, ha] at e; cases e; exact h1 _ _ rfl
    have dict : ∀ {b : Addr} {o : Obj} {es : Array DictEntry} {ep : Nat}, s₁.heap.get? b = some o → o.data = .dict es ep → H b = none := fun e d => free e (fun vs n z => by rw [d] at z; cases z) fun z => by rw [d] at z; cases z
    have nsK : ∀ {b : Addr} {m : Str → Option Value}, s₁.heap.Ns b m → (hidT s₁.heap H).Ns b m := fun {b m} ⟨o, es, ep, e, d, r⟩ => ⟨o, es, ep, hid e (dict e d), d, r⟩
    have kb : K.In (hidT s₁.heap H) := fun b o e => hid (KX b o e) (Classical.byContradiction fun q => by
      rcases only b q with z | ⟨z1, z2⟩
      · obtain ⟨p, p1, p2⟩ := tsT b z
        rw [← p2, nT p p1] at e; cases e
      · rw [z1, k1 z2] at e; cases e)
    have md : Mod K mg (hidT s₁.heap H) := ⟨kb, nsK hns, ⟨mb, nsK hb, hbb⟩, let ⟨mc, h1, h2⟩ := hlim; ⟨mc, nsK h1, h2⟩⟩
    have TB : ∀ p ∈ cs, LamX.TabB (hidT s₁.heap H) mg p.1 p.2 := fun p hp => by
      have hTp := hT p hp
      obtain ⟨o, vs', file, tf, flags, tg, inF, text, tt, e1, r1, r2, r3, r4, r5, r6, r7, r8, hne⟩ := CH p hp
      obtain ⟨bm, ob, b1, b2, b3, b4, b5, b6⟩ := hbm
      have nG : bm ≠ mainGlobals := fun q => by
        obtain ⟨o, es, ep, e, hd, _⟩ := hns
        rw [q, e] at b3
        cases b3
        rw [hd] at b6
        cases b6
      have nP : bm ≠ p.2 := fun q => by
        rw [q, hTp] at b3
        cases b3
        cases b6
      refine ⟨⟨o, vs', file, tf, flags, tg, inF, text, tt, hid e1 (free e1 (fun vs n z => by rw [r2] at z; cases z) fun z => ?_), r1, r2, r3, r4, r5, r6, r7, r8, hne⟩, ⟨bm, ob, b1, b2, nG, nP, hid b3 (free b3 (fun vs n z => by rw [b6] at z; cases z) fun z => by rw [b6] at z; cases z), b4, b5, b6⟩, fun z => ?_⟩
      · rw [r2] at z; cases z; simp at r3
      · obtain ⟨o, es, ep, e, hd, _⟩ := hns
        rw [z, hTp] at e
        cases e
        cases hd
    have e0 : Env0 P w K mg (hidT s₁.heap H) callerA [] s₁ H := ⟨rfl, md, fun b o e => of_hidT e, Nat.le_of_eq (hidT_size _ _), trivial, fun b hb => absurd (show b ∈ ([] : List Addr) from hb) (by simp), hok, .of_eq hg⟩
    obtain ⟨G, GK, GT, FG⟩ := F _ kb (nsK hns) TB
    have tabs : LamX.Tabs G.T H := fun p hp => LamX.TabS.nil (Ht _ (by rw [← hts]; exact GT p hp))
    refine codeAny_mono (FG.run callerA [] s₁ H ⟨[.ref a], []⟩ [.ref a] [.ref a] (fun v _ => v = .bl true) (fun _ _ _ => False) rfl hr e0 (hbind s₁ (.ref a)) (.cons rfl .nil) ⟨a, ns, rfl, by rw [GK]; exact hS, hl, tabs, fun _ => rfl⟩) fun r s' h => ?_
    match r, h with
    | .error e, h => exact h.elim
    | .ok .next, h => exact False.elim h
    | .ok .brk, h => exact False.elim h
    | .ok .cont, h => exact False.elim h
    | .ok (.ret u), h =>
      obtain ⟨v, H', os, bare, un, hok', r', q⟩ := h
      have q' : v = .bl true := q
      subst q'
      obtain rfl : u = Value.bool true := r'
      have stays : ∀ b o, b ∉ ts → s₁.heap.get? b = some o → s'.heap.get? b = some o := fun b o nb e => by
        by_cases z : H b = none
        · exact un.keep b o e z (by intro z; exact absurd (show b ∈ ([] : List Addr) from z) (by simp)) (by simp)
        · rcases only b z with z | ⟨z1, z2⟩
          · exact absurd z nb
          · have h1 := Ha z2
            have h2 := un.frzs a lo _ h1
            obtain ⟨g1, _⟩ := hok' a _ h2
            rw [z1, ha] at e
            cases e
            rw [z1]
            exact g1
      have grown : ∀ b, b ∈ ts → ∃ more : Array Value, s'.heap.get? b = some { cls := .none, data := .fields more } := fun b hb => by
        obtain ⟨more, z⟩ := un.tbls b #[] (Ht b hb)
        exact ⟨_, hok' b _ z⟩
      refine ⟨rfl, ⟨fun b o e => ?_, fun b o e => ?_⟩, os, bare⟩
      · by_cases hb : b ∈ ts
        · obtain ⟨p, p1, p2⟩ := tsT b hb
          obtain ⟨more, hm⟩ := grown b hb
          rw [isT b hb] at e
          cases e
          have hcode := ((CH p p1).tab (hT p p1)).isCodeTable
          rw [p2] at hcode
          exact .inr (.inl ⟨hcode, rfl, #[], more, rfl, by rw [Array.empty_append]; exact hm⟩)
        · exact .inl (stays b o hb e)
      · by_cases hb : b ∈ ts
        · obtain ⟨more, hm⟩ := grown b hb; exact ⟨_, hm⟩
        · exact ⟨o, stays b o hb e⟩
  cases hk : K.lookup a with
  | none => exact main true (fun _ => hk) fun z => by cases z
  | some o =>
    have e := KX a o hk
    rw [ha] at e
    cases e
    exact main false (fun z => by cases z) fun _ => ⟨_, hk, rfl⟩
theorem walk_ofT {l : PySem.W.OpenLaw} {k : Nat} {q : Program} {loose : List Str} {XP : (Str → Option Value) → Heap → Prop} {YP : World → Heap → Prop} {d : DefRec} {K : Params → PySem.W.Frag} {x : Str} (xs : List Str)
    (hn : l.most = some 63) (hdf : d.params.defaults = []) (hr : Room k callerA) (hY : ∀ (w : World) (h : Heap), YP w h → (K w.params).In h) (hxs : (xs.all fun x => ((recsOf q).find? fun e => e.name == x).isSome) = true)
    (F : ∀ (w : World) (mg : Str → Option Value) (fa : Addr) (h : Heap), (K w.params).In h → h.Ns mainGlobals mg → mg d.name = some (.ref fa) → EndT l w (K w.params) k x mg fa xs) :
    PySem.W.WalkO q loose XP YP l.row.toRowW d [] (fun f vs => PySem.call f vs) := by
  refine Att.attach_call hn hdf fun w s₀ s₁ mg mb fa o pm cd doc a us ns G Y ho hd hcd hmg hobj hints hlen hg => ?_
  have KX := hY w _ Y
  obtain ⟨cs, hcs, nT, fd, hb, hF⟩ := F w mg fa _ KX G.T.g hmg
  have tb : ∀ p ∈ cs, PySem.W.CodeHd s₁.heap p.1 p.2 ∧ s₁.heap.get? p.2 = some (PySem.W.tabObj #[]) := fun p hp => by
    obtain ⟨x, hx, ht⟩ := hcs p hp
    obtain ⟨e, he⟩ := Option.isSome_iff_exists.mp (List.all_eq_true.mp hxs x hx)
    exact PySem.W.tab_of G.T KX he ht
  exact law_callT KX G.T.g G.T.b G.T.builtins G.T.nolimit hg (fun p hp => (tb p hp).2) nT (fun p hp => (tb p hp).1) G.T.bmain hobj hints hlen hr hF hb
end VS

set_option Elab.async false
set_option linter.all false
set_option maxRecDepth 100000
set_option maxHeartbeats 4000000
namespace VS
open PySem PySem.Spec PyProof.Rows L2
section
variable {c : Ctx} {X : Cx}
end
section
variable {c : Ctx} {X : Cx}
end
end VS

set_option Elab.async false
set_option linter.all false
set_option maxRecDepth 100000
set_option maxHeartbeats 4000000
namespace VS
open PySem PySem.Spec PyProof.Rows L2
section
variable {c : Ctx} {X : Cx}
end
end VS

set_option Elab.async false
set_option linter.all false
set_option maxRecDepth 100000
set_option maxHeartbeats 8000000
namespace VS
open PySem PySem.Spec PyProof.Rows L2
end VS

set_option Elab.async false
set_option linter.all false
set_option maxRecDepth 100000
set_option maxHeartbeats 8000000
namespace VS
open PySem PySem.Spec PyProof.Rows L2
section
variable {X : Cx} {c : Ctx} {k n t : Nat} {m : Mir} {cn x : Str} {e : Expr} {es : List Expr} {p apos pos : Pos}
end
end VS

set_option Elab.async false
set_option linter.all false
set_option maxRecDepth 100000
set_option maxHeartbeats 8000000
namespace VS
open PySem PySem.Spec PyProof.Rows L2
end VS

set_option Elab.async false
set_option linter.all false
set_option maxRecDepth 100000
set_option maxHeartbeats 8000000
namespace VS
open PySem PySem.Spec PyProof.Rows L2
section
variable {X : Cx}
end
section
variable {X : Cx} {c : Ctx}
end
end VS
namespace VS
open PySem PySem.Spec PyProof.Rows L2
section
variable {X : Cx} {c : Ctx}
end
end VS
namespace VS
open PySem PySem.Spec PyProof.Rows L2
def kOwnL (i : Nat) (s : SE) : SS := fun ρ => match s ρ with
  | some (.lst xs, ρ1) => some (.nx, ρ1.set i (.own xs))
  | some (.tup xs, ρ1) => some (.nx, ρ1.set i (.own xs))
  | _ => none
section
variable {X : Cx} {c : Ctx}
theorem vs_ownL {i : Nat} {x : Str} {e : Expr} {s : SE} {p p1 pos pos' : Pos} (hN : X.N.Nodup) (hm : X.mg "list" = none) (ha : PE X e (vt c s)) (hi : X.N[i]? = some x := by rfl) (hx : Loc X.env.scope x := by first | exact Or.inl rfl | exact Or.inr rfl)
    (hs : swapsWith (.Call (.Name "list" p) [e] [] p1) (some (.Name x pos')) pos.line X.env = pure false := by rfl) (hf : X.fn x = true ∨ X.env.scope.names.lookup x = some .local := by first | exact Or.inl rfl | exact Or.inr rfl)
    (hg : Gl X "list" := by rfl) (hst : starEach [e] X.env = (false, eval e X.env) :: starEach [] X.env := by rfl) (hpl : (backTo p1 (starEach [] X.env)).any (·.1) = false := by rfl) :
    PS X (.Assign [.Name x pos'] (.Call (.Name "list" p) [e] [] p1) pos) (vs c (kOwnL i s)) :=
  ps_of (ps_set hN hi hx (pe_callTy call_list_of hg hm bt_list (pa_cons ha pa_nil hst) (by decide) (by decide) hst hpl) hs hf) fun σ H E ⟨F, ρ, I, fl, ρ', e, q⟩ => by
    unfold kOwnL at e
    split at e
    · rename_i xs ρ1 e1
      cases e
      refine ⟨F, ρ, I, _, ρ1, e1, fun v H1 F1 x1 I1 r1 => ?_⟩
      cases r1 with
      | lst h1 rs =>
        refine ⟨_, _, rfl, .inl (.of (I1.fh _ _ h1)), fun p hp => ?_⟩
        exact q _ _ _ x1 (I1.fresh hp rs i)
    · rename_i xs ρ1 e1
      cases e
      refine ⟨F, ρ, I, _, ρ1, e1, fun v H1 F1 x1 I1 r1 => ?_⟩
      cases r1 with
      | tup h1 rs =>
        refine ⟨_, _, rfl, .inr (.of (I1.fh _ _ h1)), fun p hp => ?_⟩
        exact q _ _ _ x1 (I1.fresh hp rs i)
    · cases e
end
end VS
namespace VS
open PySem PySem.Spec PyProof.Rows L2
section
variable {X : Cx} {c : Ctx}
end
end VS
namespace VS
open PySem PySem.Spec PyProof.Rows L2
section
variable {X : Cx} {c : Ctx}
end
end VS

set_option Elab.async false
set_option linter.all false
set_option maxRecDepth 100000
set_option maxHeartbeats 8000000
namespace VS
open PySem PySem.Spec PyProof.Rows L2
section
variable {X : Cx} {c : Ctx}
end
end VS

set_option Elab.async false
set_option linter.all false
set_option maxRecDepth 100000
set_option maxHeartbeats 4000000
namespace VS
open PySem PySem.Spec PyProof.Rows L2
section
variable {c : Ctx} {X : Cx} {tg : Expr}
end
end VS

set_option Elab.async false
set_option linter.all false
set_option maxRecDepth 100000
set_option maxHeartbeats 4000000
namespace VS
open PySem PySem.Spec PyProof.Rows L2 PySem.Calls
section
variable {X : Cx} {pins : List (Addr × Obj)} {σ : L2.St} {H : Hp} {s s' : Shared}
end
section
variable {c : Ctx} {X : Cx}
end
end VS

set_option Elab.async false
set_option linter.all false
set_option maxRecDepth 100000
set_option maxHeartbeats 4000000
namespace VS
open PySem PySem.Spec PyProof.Rows L2
section
variable {c : Ctx} {X : Cx}
end
end VS

set_option Elab.async false
set_option linter.all false
set_option maxRecDepth 100000
set_option maxHeartbeats 4000000
namespace VS
open PySem PySem.Spec PyProof.Rows L2
def inT (a b : D) : Option Bool := match toP a, toP b with
  | some x, some (.list ys) => if SeqAt.shaped x = true ∧ SeqAt.shaped (.list ys) = true then some (ys.any fun z => PyData.eqv z x) else none
  | _, _ => none
section
variable {c : Ctx} {X : Cx}
end
end VS

set_option Elab.async false
set_option linter.all false
set_option maxRecDepth 100000
set_option maxHeartbeats 4000000
namespace VS
open PySem PySem.Spec PyProof.Rows L2
section
variable {c : Ctx} {X : Cx}
end
end VS

set_option Elab.async false
set_option linter.all false
set_option maxRecDepth 100000
set_option maxHeartbeats 4000000
namespace VS
open PySem PySem.Spec PyProof.Rows L2
section
variable {c : Ctx} {X : Cx}
end
end VS

set_option Elab.async false
set_option linter.all false
set_option maxRecDepth 100000
set_option maxHeartbeats 4000000
namespace VS
open PySem PySem.Spec PyProof.Rows L2
section
variable {c : Ctx} {X : Cx}
end
end VS
namespace VS
open PySem PySem.Spec PyProof.Rows L2
end VS
namespace VS
open PySem PySem.Spec PyProof.Rows L2
section
variable {c : Ctx} {X : Cx}
end
end VS

set_option Elab.async false
set_option linter.all false
set_option maxRecDepth 100000
set_option maxHeartbeats 4000000
namespace VS
open PySem PySem.Spec PyProof.Rows L2
section
variable {X : Cx} {c : Ctx}
end
end VS

set_option Elab.async false
set_option linter.all false
set_option maxRecDepth 100000
set_option maxHeartbeats 4000000
namespace VS
open PySem PySem.Spec PyProof.Rows L2
def NoMut (ρ : Rho) : Prop := ∀ (i : Nat) s, ρ[i]? = some s → s.mut = false
theorem NoMut.mutA {σ : L2.St} {ρ : Rho} (n : NoMut ρ) (p : Addr) : p ∉ mutA σ ρ := fun h => by
  obtain ⟨i, xs, h1, h2⟩ := mem_mutA.mp h
  rcases h1 with h1 | h1 <;> (have := n _ _ h1; cases this)
theorem NoMut.setS {ρ : Rho} (n : NoMut ρ) (i : Nat) {s0 : Sl} (h0 : s0.mut = false) : NoMut (ρ.set i s0) := fun j s h => by
  by_cases z : i = j
  · subst z
    have hl : i < ρ.length := by have := (List.getElem?_eq_some_iff.mp h).1; rwa [List.length_set] at this
    rw [List.getElem?_set_self hl] at h; cases h; exact h0
  · rw [List.getElem?_set_ne z] at h; exact n j s h
theorem NoMut.sets : ∀ {is : List Nat} {ds : List D} {ρ ρ' : Rho}, NoMut ρ → VS.sets is ds ρ = some ρ' → NoMut ρ'
  | [], [], _, _, n, h => by unfold VS.sets at h; cases h; exact n
  | i :: is, d :: ds, ρ, ρ', n, h => by unfold VS.sets at h; exact NoMut.sets (n.setS i (s0 := .val d) rfl) h
  | [], _ :: _, _, _, _, h => by unfold VS.sets at h; cases h
  | _ :: _, [], _, _, _, h => by unfold VS.sets at h; cases h
theorem NoMut.tgt {t : Tg} {d : D} {ρ ρ' : Rho} (n : NoMut ρ) (h : VS.tgt t d ρ = some ρ') : NoMut ρ' := by
  cases t with
  | nm i => unfold VS.tgt at h; cases h; exact n.setS i rfl
  | tp is =>
    cases d with
    | tup ds => exact NoMut.sets n h
    | _ => simp [VS.tgt] at h
  | np i is =>
    unfold VS.tgt at h
    split at h
    · rename_i e; cases e
    · rename_i e; cases e
    · rename_i e; cases e; exact NoMut.sets (n.setS i (s0 := .val _) rfl) h
    · cases h
theorem NoMut.restore {ρ ρ2 r : Rho} (n : NoMut ρ) (h : VS.restore ρ ρ2 = some r) : NoMut r := fun i s hs => by
  obtain ⟨s0, h1, h2⟩ := restore_get h hs
  rcases h2 with ⟨rfl, _⟩ | ⟨xs, ys, _, ⟨e, _⟩ | ⟨e, _⟩⟩
  · exact n _ _ h1
  · subst e; have := n _ _ h1; cases this
  · subst e; have := n _ _ h1; cases this
section
variable {c : Ctx} {X : Cx}
theorem Ok.othX {F H : Hp} {σ : L2.St} {ρ : Rho} {p : Addr} {o : HO} (I : Ok c F H σ ρ) (nm : NoMut ρ) (hp : H p = some o) (nt : ∀ ps, o ≠ .tbl ps) (nc : ∀ c q, o ≠ LamX.CodeO c q) (nl : ¬ LamL o) (hF : F p = none) (h0 : c.H0 p = none) (o' : HO) : Ok c F (upd H p o') σ ρ := by
  have nF : ∀ q u, F q = some u → q ≠ p := fun q u e z => by subst z; rw [hF] at e; cases e
  have n0 : ∀ q u, c.H0 q = some u → q ≠ p := fun q u e z => by subst z; rw [h0] at e; cases e
  refine ⟨I.len, I.f0, fun q u e => by rw [upd_ne (nF q u e)]; exact I.fh q u e, fun q u e1 e2 e3 => by rw [upd_ne (n0 q u e1)]; exact I.fr q u e1 e2 e3, fun q u e => by rw [upd_ne (n0 q u e)]; exact I.al q u e, I.n0, fun i s hs => ?_, I.ap, I.hb, ⟨tabs_upd I.tb.t hp nt nc, I.tb.n⟩⟩
  obtain ⟨ov, h1, h2⟩ := I.sl i s hs
  have hm := nm i s hs
  refine ⟨ov, h1, ?_⟩
  cases s with
  | no => cases ov <;> trivial
  | val d => cases ov <;> exact h2
  | lam g0 =>
    cases ov with
    | none => exact h2
    | some v => exact let ⟨f1, z1, z2⟩ := h2; ⟨f1, z1, z2.move Ext.rfl' fun q0 u0 e1 e2 => ⟨by rw [upd_ne (fun z => by subst z; rw [hp] at e1; cases e1; exact nl e2)]; exact e1, id⟩⟩
  | own xs => cases hm
  | bor xs => cases hm
  | slf k fs => cases hm
  | dic b k fs => cases hm
def QO (c : Ctx) (F H : Hp) (q : Addr) (xs : List D) : Prop := c.H0 q = none ∧ F q = none ∧ ∃ us, H q = some (.lst us) ∧ Reps c.G F us xs
inductive QL (R : Addr → List D → Prop) : List Addr → List (List D) → Prop
  | nil : QL R [] []
  | cons {q : Addr} {x : List D} {qs : List Addr} {xss : List (List D)} : R q x → QL R qs xss → QL R (q :: qs) (x :: xss)
theorem QL.mono {R R' : Addr → List D → Prop} : ∀ {qs : List Addr} {xss : List (List D)}, QL R qs xss → (∀ q x, q ∈ qs → R q x → R' q x) → QL R' qs xss
  | _, _, .nil, _ => .nil
  | _, _, .cons h r, w => .cons (w _ _ List.mem_cons_self h) (QL.mono r fun q x hq => w q x (List.mem_cons_of_mem _ hq))
theorem QL.len {R : Addr → List D → Prop} : ∀ {qs : List Addr} {xss : List (List D)}, QL R qs xss → qs.length = xss.length
  | _, _, .nil => rfl
  | _, _, .cons _ r => by simp [QL.len r]
theorem QL.snoc {R : Addr → List D → Prop} {q : Addr} {x : List D} (h : R q x) : ∀ {qs : List Addr} {xss : List (List D)}, QL R qs xss → QL R (qs ++ [q]) (xss ++ [x])
  | _, _, .nil => .cons h .nil
  | _, _, .cons a r => .cons a (QL.snoc h r)
theorem QL.mem {R : Addr → List D → Prop} : ∀ {qs : List Addr} {xss : List (List D)} {q : Addr}, QL R qs xss → q ∈ qs → ∃ x ∈ xss, R q x
  | _, _, _, .nil, h => by cases h
  | _, _, _, .cons a r, h => by
    rcases List.mem_cons.mp h with rfl | h
    · exact ⟨_, List.mem_cons_self, a⟩
    · obtain ⟨x, h1, h2⟩ := QL.mem r h; exact ⟨x, List.mem_cons_of_mem _ h1, h2⟩
def mpA : List NestedKey → List (List D) → NestedKey → D → List (List D)
  | a :: ks, x :: xss, k, d => (if a = k then x ++ [d] else x) :: mpA ks xss k d
  | _, _, _, _ => []
theorem mpA_not {k : NestedKey} {d : D} : ∀ {ks : List NestedKey} {xss : List (List D)}, ks.length = xss.length → k ∉ ks → mpA ks xss k d = xss
  | [], [], _, _ => rfl
  | a :: ks, x :: xss, h, n => by
    unfold mpA
    rw [if_neg fun z => n (by rw [z]; exact List.mem_cons_self), mpA_not (by simpa using h) fun z => n (List.mem_cons_of_mem _ z)]
  | [], _ :: _, h, _ => by simp at h
  | _ :: _, [], h, _ => by simp at h
theorem lkN_adr {k : NestedKey} {d : D} : ∀ {ks : List NestedKey} {qs : List Addr}, lkN ks (qs.map D.adr) k = some d → ∃ q ∈ qs, d = .adr q
  | [], qs, h => by cases qs <;> simp [lkN] at h
  | a :: ks, [], h => by simp [lkN] at h
  | a :: ks, q :: qs, h => by
    rw [List.map_cons] at h
    unfold lkN at h
    by_cases z : a = k
    · rw [if_pos z] at h; cases h; exact ⟨q, List.mem_cons_self, rfl⟩
    · rw [if_neg z] at h
      obtain ⟨q', h1, h2⟩ := lkN_adr h
      exact ⟨q', List.mem_cons_of_mem _ h1, h2⟩
theorem QL.app {R R' : Addr → List D → Prop} {k : NestedKey} {d : D} {q : Addr} : ∀ {ks : List NestedKey} {qs : List Addr} {xss : List (List D)}, QL R qs xss → ks.length = qs.length → ks.Nodup → qs.Nodup → lkN ks (qs.map D.adr) k = some (.adr q) →
    (∀ x, R q x → R' q (x ++ [d])) → (∀ q' x, q' ∈ qs → q' ≠ q → R q' x → R' q' x) → QL R' qs (mpA ks xss k d)
  | [], _, _, .nil, _, _, _, h, _, _ => by simp [lkN] at h
  | _ :: _, _, _, .nil, h, _, _, _, _, _ => by simp at h
  | [], _, _, .cons _ _, h, _, _, _, _, _ => by simp at h
  | a :: ks, b :: qs, x :: xss, .cons h r, hl, nk, nq, e, w1, w2 => by
    rw [List.map_cons] at e
    unfold lkN at e
    unfold mpA
    have nk' := List.nodup_cons.mp nk
    have nq' := List.nodup_cons.mp nq
    by_cases z : a = k
    · rw [if_pos z] at e ⊢
      cases e
      rw [mpA_not (by rw [← r.len]; simpa using hl) (by rw [← z]; exact nk'.1)]
      exact .cons (w1 _ h) (r.mono fun q' x' hq hx => w2 q' x' (List.mem_cons_of_mem _ hq) (fun y => nq'.1 (by rw [← y]; exact hq)) hx)
    · rw [if_neg z] at e ⊢
      obtain ⟨q', m1, m2⟩ := lkN_adr e
      cases m2
      exact .cons (w2 _ _ List.mem_cons_self (fun y => nq'.1 (by rw [y]; exact m1)) h) (QL.app r (by simpa using hl) nk'.2 nq'.2 e w1 fun q' x' hq hn hx => w2 q' x' (List.mem_cons_of_mem _ hq) hn hx)
structure Gh (c : Ctx) (F H : Hp) (σ : L2.St) (iF : Nat) (ks : List NestedKey) (xss : List (List D)) (p : Addr) (qs : List Addr) (vs : List V) : Prop where
  sl : σ[iF]? = some (some (V.ref p))
  p0 : c.H0 p = none
  pF : F p = none
  da : DicAt c.G.w true none F H p ks vs
  rs : Reps c.G F vs (qs.map D.adr)
  nq : qs.Nodup
  ql : QL (QO c F H) qs xss
theorem Gh.ne {F H : Hp} {σ : L2.St} {iF : Nat} {ks : List NestedKey} {xss : List (List D)} {p : Addr} {qs : List Addr} {vs : List V} (g : Gh c F H σ iF ks xss p qs vs) : p ∉ qs := fun h => by
  obtain ⟨x, _, _, _, us, h1, _⟩ := g.ql.mem h
  obtain ⟨xs, d⟩ := g.da
  have := d.at_
  rw [h1] at this
  unfold lkO rawO at this
  cases this
theorem Gh.klen {F H : Hp} {σ : L2.St} {iF : Nat} {ks : List NestedKey} {xss : List (List D)} {p : Addr} {qs : List Addr} {vs : List V} (g : Gh c F H σ iF ks xss p qs vs) : ks.length = qs.length := by
  obtain ⟨xs, d⟩ := g.da
  have h1 := d.vse.length
  have h2 := g.rs.length
  rw [List.length_map] at h1 h2
  rw [d.kse, List.length_map, ← h1, h2]
theorem Gh.knd {F H : Hp} {σ : L2.St} {iF : Nat} {ks : List NestedKey} {xss : List (List D)} {p : Addr} {qs : List Addr} {vs : List V} (g : Gh c F H σ iF ks xss p qs vs) : ks.Nodup := by
  obtain ⟨xs, d⟩ := g.da
  exact d.nd
theorem Gh.move {F H F' H' : Hp} {σ σ' : L2.St} {iF : Nat} {ks : List NestedKey} {xss : List (List D)} {p : Addr} {qs : List Addr} {vs : List V} (g : Gh c F H σ iF ks xss p qs vs) (hs : σ'[iF]? = σ[iF]?) (e : Ext F F')
    (h : ∀ a o, H a = some o → (∀ ps, o ≠ .tbl ps) → H' a = some o) (n : ∀ a o, H a = some o → F a = none → F' a = none) : Gh c F' H' σ' iF ks xss p qs vs := by
  obtain ⟨o, ho, nt⟩ := g.da.obT
  exact ⟨by rw [hs]; exact g.sl, g.p0, n p o ho g.pF, g.da.ext e fun o' k => h p o' k (by rw [ho] at k; cases k; exact nt), g.rs.ext e, g.nq, g.ql.mono fun q x _ ⟨a1, a2, us, a3, a4⟩ => ⟨a1, n q _ a3 a2, us, h q _ a3 (fun _ z => by cases z), a4.ext e⟩⟩
theorem Gh.open {F H : Hp} {σ : L2.St} {ρ : Rho} {iF : Nat} {ks : List NestedKey} {xss : List (List D)} {p : Addr} {qs : List Addr} {vs : List V} (I : Ok c F H σ ρ) (nm : NoMut ρ) (g : Gh c F H σ iF ks xss p qs vs) {q : Addr} (hq : H q = none) (key : NestedKey) (nk : key ∉ ks) {u : HO} {vs' : List V}
    (du : dicU c.G.w p u) (da : DicAt c.G.w true none F (upd (upd H q (.lst [])) p u) p (pkN ks key) vs') (rs : Reps c.G F vs' (pvN ks (qs.map D.adr) key (.adr q))) :
    Ok c F (upd (upd H q (.lst [])) p u) σ ρ ∧ Gh c F (upd (upd H q (.lst [])) p u) σ iF (pkN ks key) (xss ++ [[]]) p (qs ++ [q]) vs' := by
  obtain ⟨u0, hh, du0, _⟩ := g.da.u
  have np : p ≠ q := fun z => by rw [z, hq] at hh; cases hh
  have I1 := I.grow (Grow.raw (o := .lst []) I.fh hq)
  have hp1 : upd H q (.lst []) p = some u0 := by rw [upd_ne np]; exact hh
  have I2 := I1.othX nm hp1 du0.nt du0.nc (du0.nl none) g.pF g.p0 u
  refine ⟨I2, g.sl, g.p0, g.pF, da, ?_, ?_, ?_⟩
  · unfold pvN at rs
    rw [if_neg nk] at rs
    rw [List.map_append]
    exact rs
  · rw [List.nodup_append]
    refine ⟨g.nq, by simp, fun a ha b hb z => ?_⟩
    rw [List.mem_singleton] at hb
    subst hb; subst z
    obtain ⟨x, _, _, _, us, h1, _⟩ := g.ql.mem ha
    rw [hq] at h1; cases h1
  · have pq := g.ne
    refine QL.snoc ⟨I.no_H0 hq, ext_none I.fh hq, [], by rw [upd_ne (Ne.symm np)]; exact upd_same, .nil⟩ (g.ql.mono fun q' x hq' ⟨a1, a2, us, a3, a4⟩ => ⟨a1, a2, us, ?_, a4⟩)
    have z1 : q' ≠ p := fun z => pq (by rw [← z]; exact hq')
    have z2 : q' ≠ q := fun z => by rw [z, hq] at a3; cases a3
    rw [upd_ne z1, upd_ne z2]
    exact a3
theorem Gh.app {F H : Hp} {σ : L2.St} {ρ : Rho} {iF : Nat} {ks : List NestedKey} {xss : List (List D)} {p : Addr} {qs : List Addr} {vs : List V} (I : Ok c F H σ ρ) (nm : NoMut ρ) (g : Gh c F H σ iF ks xss p qs vs) {key : NestedKey} {q : Addr} (hl : lkN ks (qs.map D.adr) key = some (.adr q)) {us : List V} (hq : H q = some (.lst us)) {w : V} {pd : D} (rw' : Rep c.G F w pd) :
    Ok c F (upd H q (.lst (us ++ [w]))) σ ρ ∧ Gh c F (upd H q (.lst (us ++ [w]))) σ iF ks (mpA ks xss key pd) p qs vs := by
  obtain ⟨q', m1, m2⟩ := lkN_adr hl
  cases m2
  obtain ⟨x0, _, b0, bF, us0, b1, b2⟩ := g.ql.mem m1
  rw [hq] at b1; cases b1
  have np : p ≠ q := fun z => g.ne (by rw [z]; exact m1)
  refine ⟨I.othX nm hq (fun _ z => by cases z) nc_lst nl_lst bF b0 _, g.sl, g.p0, g.pF, g.da.ext Ext.rfl' fun o k => by rw [upd_ne np]; exact k, g.rs, g.nq, ?_⟩
  refine QL.app g.ql g.klen g.knd g.nq hl (fun x ⟨a1, a2, ws, a3, a4⟩ => ⟨a1, a2, us ++ [w], upd_same, ?_⟩) fun q' x _ hn ⟨a1, a2, ws, a3, a4⟩ => ⟨a1, a2, ws, by rw [upd_ne hn]; exact a3, a4⟩
  rw [hq] at a3; cases a3
  exact a4.append (.one rw')
end
end VS

set_option Elab.async false
set_option linter.all false
set_option maxRecDepth 100000
set_option maxHeartbeats 4000000
namespace VS
open PySem PySem.Spec PyProof.Rows L2
section
variable {c : Ctx} {X : Cx} {k t : Nat} {m : Mir} {a : Expr} {sa : SE} {pos : Pos}
end
end VS

set_option Elab.async false
set_option linter.all false
set_option maxRecDepth 100000
set_option maxHeartbeats 4000000
namespace VS
open PySem PySem.Spec PyProof.Rows L2
end VS

set_option Elab.async false
set_option linter.all false
set_option maxRecDepth 100000
set_option maxHeartbeats 4000000
namespace VS
open PySem PySem.Spec PyProof.Rows L2
end VS

set_option Elab.async false
set_option linter.all false
set_option maxRecDepth 100000
set_option maxHeartbeats 4000000
namespace VS
open PySem PySem.Spec PyProof.Rows L2
section
variable {c : Ctx} {X : Cx}
end
end VS

set_option Elab.async false
set_option linter.all false
set_option maxRecDepth 100000
set_option maxHeartbeats 4000000
namespace VS
open PySem PySem.Spec PyProof.Rows L2
open PySem.W (kxs_mw KxsFacts)
abbrev supBody (p0 p1 p2 p3 p4 p5 q1 q2 q3 q4 : Pos) : List Stmt :=
  [.Expr (.Call (.Attribute (.Call (.Name "super" p0) [] [] p1) "__init__" p2) [.Name "value" p3] [] p4) p5, .Assign [.Attribute (.Name "self" q1) "value" q2] (.Name "value" q3) q4]
structure SupC (P : Program) (K : PySem.W.Frag) (C f : Addr) (fd : FuncData) : Prop where
  fn : ∃ (oc : Value) (od : Option Addr) (osl : Array (Option Value)), K.lookup f = some ⟨oc, od, .func fd, osl⟩
  sh : ∃ (qual : Str) (params : Arguments) (p0 p1 p2 p3 p4 p5 q1 q2 q3 q4 : Pos) (scope : Scope) (dV kV doc pm ct : Value) (an : Option Addr) (cda cc : Addr) (ar : Arg),
    fd = PySem.W.fnX "__init__" qual params (supBody p0 p1 p2 p3 p4 p5 q1 q2 q3 q4) scope [("__class__", cc)] dV kV doc pm an (.ref cda) ct ∧ PySem.W.codeIn K (.ref cda) qual = true ∧
    (params.posonlyargs ++ params.args).head? = some ar ∧ ar.arg = "self" ∧ (p2.endLine == p4.line) = true ∧
    scope.names.lookup ("self" : Str) = some .local ∧ scope.names.lookup ("value" : Str) = some .local ∧ scope.names.lookup ("super" : Str) = some .globalImplicit ∧ scope.names.lookup ("__class__" : Str) = some .free ∧
    (∀ x ∈ scope.names, x.2 ≠ .cell) ∧ scope.isCoroutine = false ∧ scope.isGenerator = false ∧ scope.kind = .function ∧
    (∃ (ccl : Value) (cdd : Option Addr) (vs : Array Value) (ccs : Array (Option Value)) (file : Str) (tf : Tok), K.lookup cda = some ⟨ccl, cdd, .fields vs, ccs⟩ ∧ vs[2]? = some (.str file tf) ∧ ((P.main.file : Str) == file) = true) ∧
    (∃ (cl : Value) (cld : Option Addr) (csl : Array (Option Value)), K.lookup cc = some ⟨cl, cld, .cell (some (.ref C)), csl⟩)
  top : (P.main.scope.names.lookup ("super" : Str)).isSome = false
  oex : OexC K C
  sup : PySem.W.ks_superIn K C C "__init__" = some (some (.builtin "ValueError.__init__"))
  opq : PySem.W.nsIn K cStatics "thirdparty.any" = some none
  va : PySem.W.findIn K (.ref C) "value" = some none
  ini : PySem.W.findIn K (.ref C) "__init__" = some (some (.ref f))
  tyf : PySem.W.typeIn K (.ref f) = some (.type "function")
  mro : PySem.W.mroIn K C (.ref C) = some true
  sub : PySem.W.subIn K (.ref C) (.type "ValueError") = some true
section
variable {P : Program} {w : World} {K : PySem.W.Frag} {mg : Str → Option Value} {base : Heap} {A : Around} {R : Result → Shared → Prop} {hp : Heap} {g : Array GenState} {d : Drawn} {t : Nat} {os : OsState}
theorem sup_init {C f e t0 : Addr} {fd : FuncData} {v : Value} {args : Args} (T : SupC P K C f fd) (M : Mod K mg base) (bk : ∀ b o, base.get? b = some o → hp.get? b = some o) (be : base.get? e = none) (ms : mg "super" = none) (hroom : A.depth < recursionLimit)
    (he : hp.get? e = some ({ cls := .ref C, data := .fields #[.ref t0, .none, .none, .none, .bool false, .none] } : Obj)) (hb : BindsTo ⟨hp, g, d, t, os⟩ fd args [("self", .ref e), ("value", v)])
    (hq : ∀ h' tk dx (t1 : Addr), (∀ b o, b ≠ e → hp.get? b = some o → h'.get? b = some o) → hp.objs.size ≤ dx → h'.get? e = some ({ cls := .ref C, dict := some dx, data := .fields #[.ref t1, .none, .none, .none, .bool false, .none] } : Obj) →
      h'.Ns1 dx (fun y => if y = ("value" : Str) then some v else none) → R (.ok (.ret .none)) ⟨h', g, d, tk, os⟩) : codeAny (model P w) A (.call (.ref f) args) R ⟨hp, g, d, t, os⟩ := by
  obtain ⟨oc, od, osl, lk⟩ := T.fn
  obtain ⟨qual, params, p0, p1, p2, p3, p4, p5, q1, q2, q3, q4, scope, dV, kV, doc, pm, ct, an, cda, cc, ar, rfl, hcd, hpar, har, h24, ls, lv, lsu, lcl, ncell, hco, hgen, hk, ⟨ccl, cdd, vs, ccs, file, tf, lcode, hvs, hfile⟩, cl, cld, csl, lcell⟩ := T.sh
  obtain ⟨nm, q, N, bs, bm, sn, sub, ab, col, dd, k0, k1, k2, k3, k5, hC, hbm⟩ := T.oex.cls
  obtain ⟨mb, nb, hbv⟩ := M.blt
  have X : K.In hp := M.kin.keeps bk
  have hcl : PySem.W.clsIn K C = some { name := nm, bases := bs, mro := .ref C :: bm, ns := N, qualname := q, hasDict := true, slotNames := sn, subclasses := sub, abstract := ab, collection := col, hasDel := false } := by unfold PySem.W.clsIn; rw [hC] <;> rfl
  refine ks_codeAny_call_defAt (fd := PySem.W.fnX "__init__" qual params (supBody p0 p1 p2 p3 p4 p5 q1 q2 q3 q4) scope [("__class__", cc)] dV kV doc pm an (.ref cda) ct) (body := supBody p0 p1 p2 p3 p4 p5 q1 q2 q3 q4) hroom (X _ _ lk) rfl (M.nolimit.keeps bk) (PySem.W.codeRec_of X hcd) rfl hb ncell (fun x hx => ?_) (fun h₁ hns hk₁ => ?_) hco hgen hk
  · rcases List.mem_cons.mp hx with rfl | hx
    · exact ls
    · rw [List.mem_singleton.mp hx]; exact lv
  generalize hL : hp.objs.size = L at *
  have X1 : K.In h₁ := X.keeps hk₁
  have he1 := hk₁ _ _ he
  have hC1 := X1 _ _ hC
  have ns_self : (fun x : Str => List.lookup x ([("self", Value.ref e), ("value", v)] : List (Str × Value)).reverse) "self" = some (Value.ref e) := by rfl
  have ns_val : (fun x : Str => List.lookup x ([("self", Value.ref e), ("value", v)] : List (Str × Value)).reverse) "value" = some v := by rfl
  have hev : ∀ (env : Env) (pl : Sem Bool), pl = (do return (← importBound (.Call (.Name "super" p0) [] [] p1) env).getD true) → eval (.Call (.Attribute (.Call (.Name "super" p0) [] [] p1) "__init__" p2) [.Name "value" p3] [] p4) env = (do
      let ov ← attributeBase (.Call (.Name "super" p0) [] [] p1) "__init__" env (eval (.Call (.Name "super" p0) [] [] p1) env)
      standAt p2.atName
      let (f, first) ← holding [ov] (getMethod ov "__init__" pl)
      callWith p4 f first (backTo p4 (starEach [.Name "value" p3] env)) []) := fun env pl hpl => by
    subst hpl
    show (do
      let ov ← attributeBase (.Call (.Name "super" p0) [] [] p1) "__init__" env (eval (.Call (.Name "super" p0) [] [] p1) env)
      standAt p2.atName
      methodCall (.Call (.Name "super" p0) [] [] p1) "__init__" p2 p4 env ov 1 (backTo p4 (starEach [.Name "value" p3] env)) []) = _
    unfold methodCall methodCallPos
    simp only [h24, Bool.or_true, if_true, pure_bind]
    rfl
  have hint : interactive (callEnv (PySem.W.fnX "__init__" qual params (supBody p0 p1 p2 p3 p4 p5 q1 q2 q3 q4) scope [("__class__", cc)] dV kV doc pm an (.ref cda) ct) L f) = false := by
    show (scope.kind == ScopeKind.module && _) = false
    rw [hk]
    rfl
  refine ks_wpAt_execs_cons (ks_wpAt_Expr_any (hi := hint) (ks_wpAt_MethodCall (he := hev _ _ rfl) (ks_wpAt_super_base (env := callEnv (PySem.W.fnX "__init__" qual params (supBody p0 p1 p2 p3 p4 p5 q1 q2 q3 q4) scope [("__class__", cc)] dV kV doc pm an (.ref cda) ct) L f) lsu lcl (by rfl) rfl (X1 _ _ lk) rfl hpar rfl (X1 _ _ lcode) rfl hvs hfile T.top ?_)))
  have bk1 : ∀ b o, base.get? b = some o → h₁.get? b = some o := fun b o z => hk₁ b o (bk b o z)
  refine PySem.W.ks_loadName_global hk lsu (Calls.loadGlobal_builtin (M.glob.keeps bk1) ms (nb.keeps bk1) ((hbv _ (by decide)).trans Boot.«super») ⟨rfl, ?_⟩)
  refine wpAny_loadName_free hk lcl rfl ⟨_, X1 _ _ lcell, rfl⟩ ?_
  rw [har]
  refine wpAny_loadName_local hk ls hns ns_self ?_
  refine ks_wpAny_isType_cls hC1 rfl ⟨rfl, ?_⟩
  refine ks_wpAny_call_super hC1 rfl he1 rfl (fun c z => by cases z) (PySem.W.looks_mroIn X1 T.mro) (fun h₂ e2 k2 => ?_)
  have X2 : K.In h₂ := X1.keeps k2
  have he2 := k2 _ _ he1
  have I2 : PySem.W.InstAt h₂ e ({ cls := .ref C, data := .fields #[.ref t0, .none, .none, .none, .bool false, .none] } : Obj) C none := ⟨he2, rfl, rfl, trivial⟩
  have hxC : e ≠ C := PySem.W.ks_ne X2 I2 hcl
  have hI : PySem.W.Looks (model P w) h₂ (isInstance (.ref e) (.type "ValueError")) true := I2.type.andThen (PySem.W.looks_subIn X2 T.sub)
  have hmr : PySem.W.Looks (model P w) h₂ (mroOf (.ref C)) (.ref C :: bm) := (PySem.W.looks_clsIn X2 hcl).andThen .now
  have hsup : PySem.W.alongIn K "__init__" (((Value.ref C :: bm).dropWhile (· != .ref C)).drop 1) = some (some (.builtin "ValueError.__init__")) := by
    have z := T.sup
    unfold PySem.W.ks_superIn at z
    rw [hcl] at z
    exact z
  refine PySem.W.kxs_getMethod PySem.W.kxs_ValueError e2 (PySem.W.looks_opaque X2 T.opq) hmr rfl X2 hsup hI hxC (by decide) ?_
  have hu : (h₂.push (kxs_mw "ValueError.__init__" e)).get? h₂.objs.size = some (kxs_mw "ValueError.__init__" e) := Heap.get?_push_at rfl rfl
  have k3 : ∀ b o, h₂.get? b = some o → (h₂.push (kxs_mw "ValueError.__init__" e)).get? b = some o := fun b o z => Heap.get?_push_of_some _ z
  generalize (h₂.push (kxs_mw "ValueError.__init__" e)) = h₃ at *
  have ns3 : h₃.Ns L (fun x : Str => List.lookup x ([("self", Value.ref e), ("value", v)] : List (Str × Value)).reverse) := by
    obtain ⟨o, es, ep, z1, z2⟩ := hns
    exact ⟨o, es, ep, k3 _ _ (k2 _ _ z1), z2⟩
  have he3 := k3 _ _ he2
  have hC3 := k3 _ _ (k2 _ _ hC1)
  refine PySem.W.kxs_callWith (i := "ValueError.__init__") (x := e) (by rfl) ?_
  refine Calls.evalArgs_plain (Calls.spliced_cons (wpAny_Name (wpAny_loadName_local hk lv ns3 ns_val (Calls.spliced_nil ⟨hu, ?_⟩))))
  refine wpAny_call (codeAny_of_tree ?_)
  show wpAny _ (A.deeper _).in1 (callAny (.ref h₂.objs.size) ⟨[v], []⟩) _ _ _
  simp only [callAny]
  refine wpAny_bind (wpAny_load hu ?_)
  simp only [kxs_mw, show (Value.type "method-wrapper" == Value.type "method" || Value.type "method-wrapper" == Value.type "builtin_function_or_method" || Value.type "method-wrapper" == Value.type "method-wrapper") = true by decide, if_true]
  refine PySem.W.KFB.if_so (by decide) ?_
  refine wpAny_bind (PySem.W.check_bound_init F.excBase_ValueError.toExcCallFacts hC3 he3 rfl ?_)
  refine wpAny_bind (wpAny_pure (wpAny_pure ?_))
  refine ⟨plainId_quiet F.excBase_ValueError.init.plain _, codeAny_builtin F.excBase_ValueError.initEntry ?_⟩
  refine PySem.W.exc_init_tree (cls := .ref C) (t0 := t0) (dv := none) (c2 := .none) (c3 := .none) (b4 := .bool false) he3 (by rw [sizeLine_eq]; show 1 ≤ _; decide) (fun h₄ k4 he4 ht4 => ?_)
  have hq' : PySem.wpAt (model P w) (A.deeper (callEnv (PySem.W.fnX "__init__" qual params (supBody p0 p1 p2 p3 p4 p5 q1 q2 q3 q4) scope [("__class__", cc)] dV kV doc pm an (.ref cda) ct) L f)) (Code.func (supBody p0 p1 p2 p3 p4 p5 q1 q2 q3 q4) (callEnv (PySem.W.fnX "__init__" qual params (supBody p0 p1 p2 p3 p4 p5 q1 q2 q3 q4) scope [("__class__", cc)] dV kV doc pm an (.ref cda) ct) L f))
      (execs [Stmt.Assign [.Attribute (.Name "self" q1) "value" q2] (.Name "value" q3) q4] (callEnv (PySem.W.fnX "__init__" qual params (supBody p0 p1 p2 p3 p4 p5 q1 q2 q3 q4) scope [("__class__", cc)] dV kV doc pm an (.ref cda) ct) L f))
      (fun f s' => R (.ok (.ret (match f with | .ret v => v | _ => .none))) s') (fun _ _ => False) ⟨h₄, g, d, t + 2 + 1, os⟩ := by
    have ns4 : h₄.Ns L (fun x : Str => List.lookup x ([("self", Value.ref e), ("value", v)] : List (Str × Value)).reverse) := by
      obtain ⟨o, es, ep, z1, z2⟩ := ns3
      refine ⟨o, es, ep, k4 _ _ (fun z => ?_) z1, z2⟩
      subst z
      exact absurd (Heap.lt_size he) (by rw [hL]; exact Nat.lt_irrefl _)
    have X4 : K.In h₄ := fun a o z => k4 a o (fun q => by
      subst q
      have y := M.kin _ _ z
      rw [be] at y
      cases y) (k3 _ _ (k2 _ _ (X1 _ _ z)))
    refine ks_wpAt_execs_cons (wpAt_of_wpAny (plainObj_wpAny_Assign_Attribute (wpAny_Name (wpAny_loadName_local hk lv ns4 ns_val (wpAny_Name (wpAny_loadName_local hk ls ns4 ns_self ?_)))))) 
    have hC4 := X4 _ _ hC
    refine PySem.W.set_plain X4 (ox := { cls := .ref C, dict := none, data := .fields #[.ref h₃.objs.size, .none, .none, .none, .bool false, .none] }) (od := none) ⟨he4, rfl, rfl, trivial⟩ T.oex.sa ?_
    refine PySem.HandSPX.exc_osa X4 he4 hcl (show PySem.HandSPX.refsVE (.ref C :: bm) = true from hbm) rfl T.va (fun h' tk' dx k5' dn dne hx hn => ?_)
    have ks : ∀ b o, b ≠ e → hp.get? b = some o → h'.get? b = some o := fun b o z y => k5' b o z (k4 b o z (k3 _ _ (k2 _ _ (hk₁ _ _ y))))
    have le : hp.objs.size ≤ dx := by
      obtain ⟨o, es, ep, z1, z2⟩ := ns4
      have y := Heap.lt_size z1
      rw [hL]
      exact Nat.le_of_lt (Nat.lt_of_lt_of_le y dn)
    exact wpAt_of_wpAny (wpAny_execs_nil (hq h' tk' dx _ ks (by rw [← hL]; exact le) hx hn))
  exact ks_wpAt_mono hq' (fun _ _ z => z) (fun _ _ z => z.elim)
end
end VS

set_option Elab.async false
set_option linter.all false
set_option maxRecDepth 100000
set_option maxHeartbeats 4000000
namespace VS
open PySem PySem.Spec PyProof.Rows L2
open PySem.HandSPX (refsVE_contains excO)
section
variable {M : Model} {A : Around} {E : Value → Shared → Prop} {h : Heap} {g : Array GenState} {d : Drawn} {t : Nat} {os : OsState}
variable {nm q : Str} {C N : Addr} {bs bm : List Value} {hdct : Bool} {sn : List Str} {sub : List Value} {ab : Bool} {col : Option Bool} {dd : Option Addr} {k0 k1 k2 k3 k5 : Option Value}
end
end VS
namespace PySem
namespace VSX
open PySem.W PySem.Calls PyProof.Rows
open PySem.HandSPX (refsVE_contains excO)
section
variable {prog : Program} {w : World} {A : Around} {E : Value → Shared → Prop} {R : Result → Shared → Prop} {h : Heap} {g : Array GenState} {d : Drawn} {t : Nat} {os : OsState}
variable {nm q : Str} {C N : Addr} {bs bm : List Value} {hdct : Bool} {sn : List Str} {sub : List Value} {ab : Bool} {col : Option Bool} {dd : Option Addr} {k0 k1 k2 k3 k5 : Option Value}
end
end VSX
end PySem

set_option Elab.async false
set_option linter.all false
set_option maxRecDepth 100000
set_option maxHeartbeats 4000000
namespace VS
open PySem PySem.Spec PyProof.Rows L2
end VS

set_option Elab.async false
set_option linter.all false
set_option maxRecDepth 100000
set_option maxHeartbeats 4000000
namespace VS
open PySem PySem.Spec PyProof.Rows L2
section
variable {c : Ctx} {X : Cx} {x cn m0 : Str} {p pos apos kpos : Pos} {e : Expr} {kws : List Keyword} {k n t nf : Nat} {m : Mir} {ks : List Str} {is : List Nat}
end
end VS

set_option Elab.async false
set_option linter.all false
set_option maxRecDepth 100000
set_option maxHeartbeats 4000000
namespace VS
open PySem PySem.Spec PyProof.Rows L2
structure SupShape (st : Stmt) : Prop where
  body : ∃ p0 p1 p2 p3 p4 p5 q1 q2 q3 q4 : Pos, defBody st = supBody p0 p1 p2 p3 p4 p5 q1 q2 q3 q4 ∧ (p2.endLine == p4.line) = true
  par : ∃ ar : Arg, ((defArgs st).posonlyargs ++ (defArgs st).args).head? = some ar ∧ ar.arg = "self"
  ls : (defScope st).names.lookup ("self" : Str) = some .local
  lv : (defScope st).names.lookup ("value" : Str) = some .local
  lsu : (defScope st).names.lookup ("super" : Str) = some .globalImplicit
  lcl : (defScope st).names.lookup ("__class__" : Str) = some .free
  nc : ∀ x ∈ (defScope st).names, x.2 ≠ .cell
  co : (defScope st).isCoroutine = false
  gen : (defScope st).isGenerator = false
  kind : (defScope st).kind = .function
end VS

set_option Elab.async false
set_option linter.all false
set_option maxRecDepth 100000
set_option maxHeartbeats 4000000
namespace VS
open PySem PySem.Spec PyProof.Rows L2
theorem exq_ok {P : Program} {w : World} {H : Hp} {h : Heap} {a C dx : Addr} {ox : Obj} {fv : Array Value} (h1 : h.get? a = some ox) (h2 : ox.cls = .ref C) (h3 : ox.dict = some dx) (h4 : ox.data = .fields fv) : ObjOk P w H h a (exq a C dx) :=
  ⟨⟨ox, h1, h2, h3, fv, h4⟩, ⟨_, h1⟩, fun g1 g2 z k => by
    obtain ⟨o, q1, q2⟩ := z
    exact ⟨o, k _ q1, q2⟩⟩
theorem exq_at {P : Program} {w : World} {H : Hp} {h : Heap} {a C dx : Addr} (hok : HOk P w H h) (e : H a = some (exq a C dx)) : ∃ ox : Obj, h.get? a = some ox ∧ ox.cls = .ref C ∧ ox.dict = some dx ∧ ∃ fv, ox.data = .fields fv := by
  have x : ObjOk P w H h a (.ext fun h => ∃ ox : Obj, h.get? a = some ox ∧ ox.cls = .ref C ∧ ox.dict = some dx ∧ ∃ fv, ox.data = .fields fv) := hok a _ e
  exact x.1
theorem xd_at {P : Program} {w : World} {H : Hp} {h : Heap} {dx : Addr} {fs : List (Str × V)} (hok : HOk P w H h) (e : H dx = some (.xd fs)) : ∃ mA, h.Ns1 dx mA ∧ ∀ f, RelO (fs.lookup f) (mA f) := by
  have x : ObjOk P w H h dx (.xd fs) := hok dx _ e
  exact x
section
variable {X : Cx} {x : Str} {C f : Addr} {fd : FuncData} {p pos kpos : Pos} {e : Expr} {te : TE} {k : Nat}
end
end VS

set_option Elab.async false
set_option linter.all false
set_option maxRecDepth 100000
set_option maxHeartbeats 4000000
namespace VS
open PySem PySem.Spec PyProof.Rows L2
structure CalE (P : Program) (G : Gx) (mg : Str → Option Value) (x : Str) (k : Nat) : Prop where
  ex : ∃ (f : Addr) (fd : FuncData), SupC P G.K (G.cls k) f fd ∧ PySem.W.keepIn G.K (.ref (G.cls k)) = true ∧ mg x = some (.ref (G.cls k)) ∧ mg "super" = none ∧
    (∀ (s : Shared) (a v : Value), G.K.In s.heap → BindsTo s fd ⟨[a, v], []⟩ [("self", a), ("value", v)]) ∧ (∀ (s : Shared) (a v : Value), G.K.In s.heap → BindsTo s fd ⟨[a], [("value", v)]⟩ [("self", a), ("value", v)]) ∧
    (∀ (s : Shared) (a : Value), G.K.In s.heap → BindsTo s fd ⟨[a], []⟩ [("self", a), ("value", .none)])
section
variable {c : Ctx} {X : Cx} {x : Str} {p p2 pos kpos apos : Pos} {e : Expr} {se : SE} {k lv : Nat}
def gExV (ks : List Nat) : G1
  | .exc k d => if k ∈ ks then some d else none
  | _ => none
def XvAll (K : PySem.W.Frag) (G : Gx) (ks : List Nat) : Prop := ∀ k ∈ ks, XfC K (G.cls k) ∧ PySem.W.findIn K (.ref (G.cls k)) "value" = some none
theorem ve_exF {ks : List Nat} (T : XvAll c.G.K c.G ks) (hK : X.K = c.G.K) (he : PE X e (vt c se)) (hb : attributeBase e "value" X.env (eval e X.env) = eval e X.env := by rfl) : PE X (.Attribute e "value" apos) (vt c (s1 (gExV ks) se)) := by
  refine ⟨fun pins s σ H Q I h => ?_⟩
  obtain ⟨F, ρ, I0, d, ρ', e1, q⟩ := h
  obtain ⟨y, ey, eg⟩ := s1_inv e1
  unfold gExV at eg
  split at eg
  · rename_i k d0
    split at eg
    · rename_i hk
      cases eg
      obtain ⟨T1, T2⟩ := T k hk
      rw [← hK] at T1 T2
      refine attr_of hb (thn (he.run pins s σ H (fun v H1 => ∃ F1, Ext F F1 ∧ Ok c F1 H1 σ ρ' ∧ Rep c.G F1 v (.exc k d)) I ⟨F, ρ, I0, _, ρ', ey, fun v H1 F1 x1 I1 r1 => ⟨F1, x1, I1, r1⟩⟩) fun u s1 hh => ?_)
      obtain ⟨v, H1, I1, rx, F1, x1, J1, r1⟩ := hh
      cases r1 with
      | @exc a dx _ v' _ h1 h2 r =>
        obtain rfl : u = Value.ref a := rx
        obtain ⟨ox, g1, g2, g3, fv, g4⟩ := exq_at I1.hok (J1.fh _ _ h1)
        obtain ⟨mA, hns, hr⟩ := xd_at I1.hok (J1.fh _ _ h2)
        obtain ⟨od, ho, hl⟩ := lookIn_ns hns
        obtain ⟨u', hu, ru⟩ := RelO.some_of (v := v') (o := mA "value") (hr "value")
        have J : PySem.W.InstAt s1.heap a ox (c.G.cls k) (some od) := ⟨g1, g2, by unfold PySem.W.notCls; rw [g4] <;> rfl, by rw [g3]; exact ho⟩
        exact PySem.HandSPX.exc_get I1.kIn J T1.ga T1.gg T1.exC (PySem.W.findObj_own T1.hdC T2 rfl (by rw [hl, hu])) (handed_of ru) ⟨v', H1, I1.tok _, ru, q v' H1 F1 x1 J1 r⟩
    · cases eg
  · cases eg
def rIsX (K : PySem.W.Frag) : List V → Hp → VK → Prop := fun xs H Q => ∃ (a C dx : Addr) (fs : List (Str × V)) (w : V) (cv : Value) (b : Bool), xs = [.ref a, w] ∧ ExcC K C ∧ H a = some (exq a C dx) ∧ H dx = some (.xd fs) ∧ (∀ u, RelV w u → u = cv) ∧ PySem.W.kitOne K (.ref C) cv = some b ∧ Q (.bl b) H
theorem call_isX : CallR X (.builtin "isinstance") (rIsX X.K) := by
  intro pins s σ H xs us Q I r h
  obtain ⟨a, D, dx, fs, w, cv, b, rfl, C, ha, hd, hcv, e, q⟩ := h
  cases r with
  | cons rx rr =>
    cases rr with
    | cons rt rr =>
      cases rr
      cases rx
      have ec := hcv _ rt
      subst ec
      obtain ⟨ox, g1, g2, g3, fv, g4⟩ := exq_at I.hok ha
      obtain ⟨mA, hns, hr⟩ := xd_at I.hok hd
      obtain ⟨od, ho, hl⟩ := lookIn_ns hns
      have J : PySem.W.InstAt s.heap a ox D (some od) := ⟨g1, g2, by unfold PySem.W.notCls; rw [g4] <;> rfl, by rw [g3]; exact ho⟩
      have hcl : (PySem.W.clsIn X.K D).isSome = true := by
        obtain ⟨cd, hc, _⟩ := PySem.W.any_some C.hd
        rw [hc]
        rfl
      exact PySem.W.kia_one (PySem.W.kitx_exc hcl C.hg C.hk C.hs C.ha C.hn C.ht C.hm) I.kIn J e (fun z => nomatch z) fun tk => ⟨.bl b, H, I.kept (t' := tk) fun _ _ z => z, rfl, q⟩
def gIsX (tab : List (Nat × Bool)) : G1
  | .exc k _ => (tab.lookup k).map .bl
  | _ => none
def XiAll (K : PySem.W.Frag) (G : Gx) (cv : Value) (tab : List (Nat × Bool)) : Prop := ∀ k b, tab.lookup k = some b → ExcC K (G.cls k) ∧ PySem.W.kitOne K (.ref (G.cls k)) cv = some b
theorem ve_isX {e2 : Expr} {tab : List (Nat × Bool)} {w : V} {cv : Value} (T : XiAll c.G.K c.G cv tab) (hK : X.K = c.G.K) (hm : X.mg "isinstance" = none) (he : PE X e (vt c se)) (he2 : PE X e2 (tC w)) (hcv : ∀ u, RelV w u → u = cv) (hg : Gl X "isinstance" := by rfl)
    (h1 : starEach [e, e2] X.env = (false, eval e X.env) :: starEach [e2] X.env := by rfl) (h2 : starEach [e2] X.env = (false, eval e2 X.env) :: starEach [] X.env := by rfl) (hpl : (backTo pos (starEach [e2] X.env)).any (·.1) = false := by rfl) :
    PE X (.Call (.Name "isinstance" p) [e, e2] [] pos) (vt c (s1 (gIsX tab) se)) := by
  refine pe_of (pe_callB call_isX hg hm (by decide +kernel) (pa_cons he (pa_cons he2 pa_nil h2) h1) (by decide) (by decide) h1 hpl) fun σ H Q ⟨F, ρ, I, d, ρ', e, q⟩ => ?_
  obtain ⟨y, e1, eg⟩ := s1_inv e
  refine ⟨F, ρ, I, y, ρ', e1, fun v H1 F1 x1 I1 r1 => ?_⟩
  unfold gIsX at eg
  split at eg
  · rename_i k d0
    cases hl : tab.lookup k with
    | none => rw [hl] at eg; cases eg
    | some b =>
      rw [hl] at eg
      cases eg
      obtain ⟨T1, T2⟩ := T k b hl
      rw [← hK] at T1 T2
      cases r1 with
      | exc g1 g2 r => exact ⟨_, _, _, _, w, cv, b, rfl, T1, I1.fh _ _ g1, I1.fh _ _ g2, hcv, T2, q _ _ _ x1 I1 (.bl _)⟩
  · cases eg
end
end VS

set_option Elab.async false
set_option linter.all false
set_option maxRecDepth 100000
set_option maxHeartbeats 4000000
namespace VS
open PySem PySem.Spec PyProof.Rows L2
mutual
def shD (o : Addr → Option Str) : D → Option Str
  | .non => some "None"
  | .bl b => some (if b then "True" else "False")
  | .int i => if i.natAbs.log2 < 1920 then some (toString i) else none
  | .str x => some (reprText x)
  | .adr a => o a
  | .lst xs => match shDs o xs with
    | some ts => some (listText ts)
    | none => none
  | .tup xs => match shDs o xs with
    | some ts => some (tupleText ts)
    | none => none
  | .dct false [] [] => some (dictText [])
  | _ => none
def shDs (o : Addr → Option Str) : List D → Option (List Str)
  | [] => some []
  | d :: ds => match shD o d, shDs o ds with
    | some t, some ts => some (t :: ts)
    | _, _ => none
end
mutual
def dpD : D → Nat
  | .lst xs => dpDs xs + 1
  | .tup xs => dpDs xs + 1
  | .dct _ _ _ => 1
  | _ => 0
def dpDs : List D → Nat
  | [] => 0
  | d :: ds => max (dpD d) (dpDs ds)
end
theorem shD_lst {o : Addr → Option Str} {xs : List D} {t : Str} (h : shD o (.lst xs) = some t) : ∃ ts, shDs o xs = some ts ∧ t = listText ts := by
  unfold shD at h
  split at h
  · cases h; exact ⟨_, by assumption, rfl⟩
  · cases h
theorem shD_tup {o : Addr → Option Str} {xs : List D} {t : Str} (h : shD o (.tup xs) = some t) : ∃ ts, shDs o xs = some ts ∧ t = tupleText ts := by
  unfold shD at h
  split at h
  · cases h; exact ⟨_, by assumption, rfl⟩
  · cases h
theorem shDs_cons {o : Addr → Option Str} {d : D} {ds : List D} {ts : List Str} (h : shDs o (d :: ds) = some ts) : ∃ t us, shD o d = some t ∧ shDs o ds = some us ∧ ts = t :: us := by
  unfold shDs at h
  split at h
  · cases h; exact ⟨_, _, by assumption, by assumption, rfl⟩
  · cases h
structure OSh (P : Program) (w : World) (o : Addr → Option Str) (F : Hp) (h : Heap) : Prop where
  k : ∀ p t, o p = some t → ReprK P w [] h 0 (.ref p) t
  n1 : ∀ p t vs, o p = some t → F p ≠ some (.lst vs)
  n2 : ∀ p t vs, o p = some t → F p ≠ some (.tup vs)
  n3 : ∀ p t od u, o p = some t → F p ≠ some (.frz od u)
theorem OSh.no {P : Program} {w : World} {F : Hp} {h : Heap} : OSh P w (fun _ => none) F h := ⟨fun _ _ z => (by cases z), fun _ _ _ z => (by cases z), fun _ _ _ z => (by cases z), fun _ _ _ _ z => (by cases z)⟩
section
variable {G : Gx} {F H : Hp} {h : Heap} {P : Program} {w : World} {o : Addr → Option Str}
theorem dct_fz {a : Addr} {od : Obj} {ks : List NestedKey} {vs : List V} (x : DicAt G.w false (some od) F F a ks vs) : ∃ kvs : List (Key × V), F a = some (.frz od (.dK kvs)) ∧ ks = kvs.map (fun x => nkOf x.1) := by
  obtain ⟨kvs, h1, h2, _⟩ := x
  exact ⟨kvs, h1, h2⟩
mutual
theorem Rep.dp1 (O : OSh P w o F h) : ∀ {v : V} {d d' : D} {t t' : Str}, Rep G F v d → Rep G F v d' → shD o d = some t → shD o d' = some t' → dpD d = dpD d'
  | _, _, _, _, _, .non, r, _, _ => by cases r; rfl
  | _, _, _, _, _, .bl b, r, _, _ => by cases r; rfl
  | _, _, _, _, _, .int i, r, _, _ => by cases r; rfl
  | _, _, _, _, _, .str x, r, _, _ => by cases r; rfl
  | _, _, _, _, _, .adr a, r, h1, h2 => by
    have z : o a = some _ := h1
    cases r with
    | adr => rfl
    | lst q _ => exact absurd q (O.n1 _ _ _ z)
    | tup q _ => exact absurd q (O.n2 _ _ _ z)
    | scr _ _ => cases h2
    | ins _ _ _ => cases h2
    | exc _ _ _ => cases h2
    | bth _ => cases h2
    | @dct _ b od ks vs ds q _ =>
      cases b with
      | true => unfold shD at h2; cases h2
      | false =>
        obtain ⟨kvs, q1, _⟩ := dct_fz q
        exact absurd q1 (O.n3 _ _ _ _ z)
  | _, _, _, _, _, .lst q s, r, h1, h2 => by
    obtain ⟨ts, g1, _⟩ := shD_lst h1
    cases r with
    | adr => exact absurd q (O.n1 _ _ _ h2)
    | lst q' s' =>
      rw [q] at q'
      cases q'
      obtain ⟨us, g2, _⟩ := shD_lst h2
      simp only [dpD]
      rw [Reps.dp1 O s s' g1 g2]
    | tup q' s' => rw [q] at q'; cases q'
    | scr _ _ => cases h2
    | ins _ _ _ => cases h2
    | exc _ _ _ => cases h2
    | bth _ => cases h2
    | @dct _ b od ks vs ds q' _ =>
      cases b with
      | true => unfold shD at h2; cases h2
      | false =>
        obtain ⟨kvs, q1, _⟩ := dct_fz q'
        rw [q] at q1; cases q1
  | _, _, _, _, _, .tup q s, r, h1, h2 => by
    obtain ⟨ts, g1, _⟩ := shD_tup h1
    cases r with
    | adr => exact absurd q (O.n2 _ _ _ h2)
    | tup q' s' =>
      rw [q] at q'
      cases q'
      obtain ⟨us, g2, _⟩ := shD_tup h2
      simp only [dpD]
      rw [Reps.dp1 O s s' g1 g2]
    | lst q' s' => rw [q] at q'; cases q'
    | scr _ _ => cases h2
    | ins _ _ _ => cases h2
    | exc _ _ _ => cases h2
    | bth _ => cases h2
    | @dct _ b od ks vs ds q' _ =>
      cases b with
      | true => unfold shD at h2; cases h2
      | false =>
        obtain ⟨kvs, q1, _⟩ := dct_fz q'
        rw [q] at q1; cases q1
  | _, _, _, _, _, .dct (b := b) q s, r, h1, h2 => by
    cases b with
    | true => unfold shD at h1; cases h1
    | false =>
      obtain ⟨kvs, q1, _⟩ := dct_fz q
      cases r with
      | adr => exact absurd q1 (O.n3 _ _ _ _ h2)
      | tup q' s' => rw [q1] at q'; cases q'
      | lst q' s' => rw [q1] at q'; cases q'
      | scr _ _ => cases h2
      | ins _ _ _ => cases h2
      | exc _ _ _ => cases h2
      | bth _ => cases h2
      | dct _ _ => rfl
  | _, _, _, _, _, .scr _ _, _, h1, _ => by cases h1
  | _, _, _, _, _, .ins _ _ _, _, h1, _ => by cases h1
  | _, _, _, _, _, .exc _ _ _, _, h1, _ => by cases h1
  | _, _, _, _, _, .bth _, _, h1, _ => by cases h1
theorem Reps.dp1 (O : OSh P w o F h) : ∀ {vs : List V} {ds ds' : List D} {ts ts' : List Str}, Reps G F vs ds → Reps G F vs ds' → shDs o ds = some ts → shDs o ds' = some ts' → dpDs ds = dpDs ds'
  | _, _, _, _, _, .nil, r, _, _ => by cases r; rfl
  | _, _, _, _, _, .cons q s, r, h1, h2 => by
    cases r with
    | cons q' s' =>
      obtain ⟨_, _, g1, g2, _⟩ := shDs_cons h1
      obtain ⟨_, _, k1, k2, _⟩ := shDs_cons h2
      simp only [dpDs]
      rw [Rep.dp1 O q q' g1 k1, Reps.dp1 O s s' g2 k2]
end
def Sm (G : Gx) (F : Hp) (o : Addr → Option Str) (n : Nat) (bs : List Addr) : Prop := ∀ b ∈ bs, ∃ d t, Rep G F (.ref b) d ∧ shD o d = some t ∧ dpD d ≤ n
theorem Sm.mono {n m : Nat} {bs : List Addr} (h : Sm G F o n bs) (l : n ≤ m) : Sm G F o m bs := fun b hb => let ⟨d, t, a1, a2, a3⟩ := h b hb; ⟨d, t, a1, a2, Nat.le_trans a3 l⟩
theorem Sm.app {n : Nat} {bs cs : List Addr} (h : Sm G F o n bs) (k : Sm G F o n cs) : Sm G F o n (bs ++ cs) := fun b hb => (List.mem_append.mp hb).elim (h b) (k b)
theorem Sm.not {n : Nat} {bs : List Addr} {a : Addr} {d : D} {t : Str} (O : OSh P w o F h) (z : Sm G F o n bs) (r : Rep G F (.ref a) d) (hs : shD o d = some t) (l : n < dpD d) : a ∉ bs := fun hb => by
  obtain ⟨d', t', a1, a2, a3⟩ := z a hb
  rw [← Rep.dp1 O r a1 hs a2] at a3
  omega
theorem Sm.nil {n : Nat} : Sm G F o n [] := fun b hb => by cases hb
theorem Sm.con {n : Nat} {bs : List Addr} {a : Addr} {d : D} {t : Str} (z : Sm G F o n bs) (r : Rep G F (.ref a) d) (hs : shD o d = some t) (l : dpD d ≤ n) : Sm G F o n (a :: bs) := fun b hb => by
  rcases List.mem_cons.mp hb with e | hb
  · subst e; exact ⟨d, t, r, hs, l⟩
  · exact z b hb
end
section
variable {X : Cx} {G : Gx} {F H : Hp} {pins : List (Addr × Obj)} {σ : L2.St} {s : Shared} {o : Addr → Option Str}
theorem dct_raw (I : Inv X pins σ H s) (e : Ext F H) {a : Addr} {od : Obj} {vs : List V} (q : DicAt G.w false (some od) F F a [] vs) : ∃ (ob : Obj) (es : Array DictEntry) (n : Nat), s.heap.get? a = some ob ∧ ob.cls = .type "dict" ∧ ob.data = .dict es n ∧ (a == sysModules) = false ∧ es.toList = [] := by
  obtain ⟨kvs, h1, h2, h3, _⟩ := q
  have hk : kvs = [] := List.map_eq_nil_iff.mp h2.symm
  subst hk
  obtain ⟨_, hs, us, kr, ob, es, ep, g1, g2, g3, g4⟩ := (Rd.ok (.inr ⟨od, e _ _ h1⟩) I.hok : ObjOk X.prog X.w H s.heap a (.dK []))
  cases kr
  exact ⟨ob, es, ep, g1, g2.1, g3, hs, List.length_eq_zero_iff.mp (by have := g4.2.1.length; simpa using this)⟩
mutual
theorem Rep.shK (I : Inv X pins σ H s) (e : Ext F H) (O : OSh X.prog X.w o F s.heap) : ∀ {v : V} {d : D} {t : Str} {u : Value}, Rep G F v d → shD o d = some t → RelV v u → t.length ≤ sizeLine → ∃ bs, Sm G F o (dpD d) bs ∧ ReprK X.prog X.w bs s.heap (dpD d) u t
  | _, _, _, _, .non, h, r, _ => by cases h; cases r; exact ⟨[], .nil, .of_is ReprIs.none _ _ _⟩
  | _, _, _, _, .bl b, h, r, _ => by cases h; cases r; exact ⟨[], .nil, .of_is (ReprIs.bool b) _ _ _⟩
  | _, _, _, _, .int i, h, r, _ => by
    obtain ⟨tk, rfl⟩ := r
    unfold shD at h
    split at h
    · rename_i hz
      cases h
      exact ⟨[], .nil, .of_is (ReprIs.int tk hz) _ _ _⟩
    · cases h
  | _, _, _, _, .str x, h, r, hz => by
    obtain ⟨tk, rfl⟩ := r
    cases h
    exact ⟨[], .nil, .of_is (ReprIs.str x tk hz) _ _ _⟩
  | _, _, _, _, .adr a, h, r, _ => by
    cases r
    exact ⟨[], .nil, O.k _ _ h⟩
  | _, _, _, _, .lst (a := a) q k, h, r, hz => by
    cases r
    have rr := Rep.lst (G := G) q k
    obtain ⟨ts, g1, rfl⟩ := shD_lst h
    obtain ⟨its, rv, ⟨ob, n, ho, hc, _, hd⟩, _⟩ := I.list (.of (e _ _ q))
    obtain ⟨bs, hb, hk⟩ := Reps.shK I e O k g1 rv fun t ht => Nat.le_trans (listText_mem_le ht) hz
    have hna : a ∉ bs := hb.not O rr h (by simp only [dpD]; omega)
    refine ⟨a :: bs, (hb.mono (by simp only [dpD]; omega)).con rr h (Nat.le_refl _), ?_⟩
    simp only [dpD]
    cases its with
    | nil =>
      have e0 := hk.length_eq
      cases ts with
      | nil => rw [listText_nil]; exact (ReprK.listEmpty ho hc (by simpa using hd))
      | cons _ _ => simp at e0
    | cons x l => exact ReprK.list ho hc hd hna (by simpa using hk.length_eq) (fun i y e => hk.item i y (by simpa using e))
  | _, _, _, _, .tup (a := a) q k, h, r, hz => by
    cases r
    have rr := Rep.tup (G := G) q k
    obtain ⟨ts, g1, rfl⟩ := shD_tup h
    obtain ⟨its, rv, ⟨ob, ho, hc, n, hd⟩, _⟩ := I.tuple (.of (e _ _ q))
    obtain ⟨bs, hb, hk⟩ := Reps.shK I e O k g1 rv fun t ht => Nat.le_trans (tupleText_mem_le ht) hz
    have hna : a ∉ bs := hb.not O rr h (by simp only [dpD]; omega)
    refine ⟨a :: bs, (hb.mono (by simp only [dpD]; omega)).con rr h (Nat.le_refl _), ?_⟩
    simp only [dpD]
    exact ReprK.tuple ho hc hd hna (by simpa using hk)
  | _, _, t, _, .dct (a := a) (b := b) (ks := ks) q k, h, r, hz => by
    cases r
    have rr := Rep.dct (G := G) q k
    have h' := h
    cases b with
    | true => unfold shD at h; cases h
    | false =>
      unfold shD at h
      have hk : ks = [] ∧ t = dictText [] := by
        split at h <;> first | (cases h; done) | skip
        all_goals (rename_i e1; first | (cases e1; done) | (cases e1; cases h; exact ⟨rfl, rfl⟩))
      obtain ⟨rfl, rfl⟩ := hk
      obtain ⟨ob, es, n, g1, g2, g3, g4, g5⟩ := dct_raw I e q
      refine ⟨[a], Sm.nil.con rr h' (Nat.le_refl _), ?_⟩
      exact ReprK.dict g1 g2 g3 g4 (by simp) (by rw [g5]; exact .nil)
  | _, _, _, _, .scr _ _, h, _, _ => by cases h
  | _, _, _, _, .ins _ _ _, h, _, _ => by cases h
  | _, _, _, _, .exc _ _ _, h, _, _ => by cases h
  | _, _, _, _, .bth _, h, _, _ => by cases h
theorem Reps.shK (I : Inv X pins σ H s) (e : Ext F H) (O : OSh X.prog X.w o F s.heap) : ∀ {vs : List V} {ds : List D} {ts : List Str} {us : List Value}, Reps G F vs ds → shDs o ds = some ts → Vals vs us → (∀ t ∈ ts, t.length ≤ sizeLine) → ∃ bs, Sm G F o (dpDs ds) bs ∧ ReprAllK X.prog X.w bs s.heap (dpDs ds) us ts
  | _, _, _, _, .nil, h, r, _ => by
    cases r
    unfold shDs at h
    cases h
    exact ⟨[], .nil, .nil⟩
  | _, _, _, _, .cons q k, h, r, hz => by
    cases r with
    | cons r1 r2 =>
      obtain ⟨t, us, g1, g2, rfl⟩ := shDs_cons h
      obtain ⟨b1, hb1, k1⟩ := Rep.shK I e O q g1 r1 (hz _ List.mem_cons_self)
      obtain ⟨b2, hb2, k2⟩ := Reps.shK I e O k g2 r2 fun t ht => hz t (List.mem_cons_of_mem _ ht)
      refine ⟨b1 ++ b2, (hb1.mono (by simp only [dpDs]; omega)).app (hb2.mono (by simp only [dpDs]; omega)), ?_⟩
      simp only [dpDs]
      exact .cons ((k1.more fun b hb => List.mem_append_left _ hb).level_le (Nat.le_max_left _ _)) (k2.more_le (fun b hb => List.mem_append_right _ hb) (Nat.le_max_right _ _))
end
end
end VS

set_option Elab.async false
set_option linter.all false
set_option maxRecDepth 100000
set_option maxHeartbeats 4000000
namespace VS
open PySem PySem.Spec PyProof.Rows L2
def gShow (o : Addr → Option Str) : GL
  | [.adr _] => none
  | [d] => match shD o d with
    | some t => if t.length ≤ LN ∧ dpD d ≤ 50 then some (.str t) else none
    | none => none
  | _ => none
def XShow (X : Cx) (o : Addr → Option Str) : Prop := ∀ (pins : List (Addr × Obj)) (σ : L2.St) (H F : Hp) (s : Shared), Inv X pins σ H s → Ext F H → OSh X.prog X.w o F s.heap
theorem XShow.no {X : Cx} : XShow X fun _ => none := fun _ _ _ _ _ _ _ => .no
section
variable {c : Ctx} {X : Cx} {o : Addr → Option Str}
theorem ca_show (O : XShow X o) (hgd : X.A.guards = some []) (hu : X.A.units + 100 < cLine) : CaD c X (.builtin "repr") (gShow o) := by
  intro pins s σ H xs us Q I r ⟨F, ds, d, e, rr, hg, q⟩
  unfold gShow at hg
  split at hg
  · cases hg
  · rename_i d0 hna
    split at hg
    · rename_i t ht
      split at hg
      · rename_i hc
        cases hg
        have hz : t.length ≤ sizeLine := ln_fit hc.1
        cases rr with
        | cons r1 r2 =>
          cases r2
          cases r with
          | cons u1 u2 =>
            cases u2
            rename_i u0
            have fin : ∀ (tk : Nat) (tt : Tok), EP X pins σ Q (.str t tt) { s with toks := tk } := fun tk tt => ⟨.str t, H, I.tok tk, ⟨_, rfl⟩, q.here e (.str _)⟩
            have fin2 : ∀ (h' : Heap) (tt : Tok) (tk : Nat), (∀ b o, s.heap.get? b = some o → h'.get? b = some o) → EP X pins σ Q (.str t tt) { s with heap := h', toks := tk } := fun h' tt tk k => ⟨.str t, H, I.kept k, ⟨_, rfl⟩, q.here e (.str _)⟩
            have O' := O pins σ H F s I e
            cases r1 with
            | non => cases u1; cases ht; exact PySem.P.repr_of_none (fin _ _)
            | bl b => cases u1; cases ht; exact PySem.P.repr_of_bool (fin _ _)
            | int i =>
              obtain ⟨tk, rfl⟩ := u1
              unfold shD at ht
              split at ht
              · rename_i hi
                cases ht
                exact PySem.P.repr_of_int hi (fin _ _)
              · cases ht
            | str x =>
              obtain ⟨tk, rfl⟩ := u1
              cases ht
              exact PySem.P.repr_of_str (fin _ _) hz
            | adr a => exact absurd rfl (hna a)
            | @lst a vs ds q1 k1 =>
              cases u1
              have rr := Rep.lst (G := c.G) q1 k1
              obtain ⟨ts, g1, rfl⟩ := shD_lst ht
              obtain ⟨its, rv, ⟨ob, n, ho, hc', _, hd⟩, _⟩ := I.list (.of (e _ _ q1))
              obtain ⟨bs, hb, hk⟩ := Reps.shK I e O' k1 g1 rv fun t ht => Nat.le_trans (listText_mem_le ht) hz
              have hna : a ∉ bs := hb.not O' rr ht (by simp only [dpD]; omega)
              have hdp : dpDs ds + 1 ≤ 50 := hc.2
              refine call_repr_slot (by omega) ⟨ob, ho, hc'⟩ PySem.F.slot_list_repr.toG ?_
              cases its with
              | nil =>
                have e0 := hk.length_eq
                cases ts with
                | nil =>
                  rw [listText_nil] at fin2
                  exact call_list_repr_empty ⟨ob, ho, hc'⟩ ho (by simpa using hd) ⟨_, _, rfl, fin2 s.heap _ _ fun _ _ e => e⟩
                | cons _ _ => simp at e0
              | cons x l => exact call_list_reprK ho hc' hd hna (by simpa using hk.length_eq) (fun i y e => hk.item i y (by simpa using e)) hgd (fun b _ => Clear.nil b) (by show X.A.units + 1 + (dpDs ds + 1) < cLine; omega) (fun _ _ e => e) (fun h' u tk k => ⟨_, _, rfl, fin2 h' u tk k⟩) hz
            | @tup a vs ds q1 k1 =>
              cases u1
              have rr := Rep.tup (G := c.G) q1 k1
              obtain ⟨ts, g1, rfl⟩ := shD_tup ht
              obtain ⟨its, rv, ⟨ob, ho, hc', n, hd⟩, _⟩ := I.tuple (.of (e _ _ q1))
              obtain ⟨bs, hb, hk⟩ := Reps.shK I e O' k1 g1 rv fun t ht => Nat.le_trans (tupleText_mem_le ht) hz
              have hna : a ∉ bs := hb.not O' rr ht (by simp only [dpD]; omega)
              have hdp : dpDs ds + 1 ≤ 50 := hc.2
              refine call_repr_slot (by omega) ⟨ob, ho, hc'⟩ PySem.F.slot_tuple_repr ?_
              exact call_tuple_reprK ho hc' hd hna hk hgd (fun b _ => Clear.nil b) (by show X.A.units + 1 + (dpDs ds + 1) < cLine; omega) (fun _ _ e => e) (fun h' u tk k => ⟨_, _, rfl, fin2 h' u tk k⟩) hz
            | @dct a b od ks vs ds q1 k1 =>
              cases u1
              cases b with
              | true => unfold shD at ht; cases ht
              | false =>
                unfold shD at ht
                have hk : ks = [] ∧ t = dictText [] := by
                  split at ht <;> first | (cases ht; done) | skip
                  all_goals (rename_i e1; first | (cases e1; done) | (cases e1; cases ht; exact ⟨rfl, rfl⟩))
                obtain ⟨rfl, rfl⟩ := hk
                obtain ⟨ob, es, n, g1, g2, g3, g4, g5⟩ := dct_raw I e q1
                refine call_repr_slot (by omega) ⟨ob, g1, g2⟩ PySem.F.slot_dict_repr ?_
                exact call_dict_reprK (as := []) (d := 0) g1 g2 g3 g4 (by simp) (by rw [g5]; exact .nil) hgd (fun b _ => Clear.nil b) (by show X.A.units + 1 + (0 + 1) < cLine; omega) (fun _ _ e => e) (fun h' u tk k => ⟨_, _, rfl, fin2 h' u tk k⟩) hz
            | scr _ _ => cases ht
            | ins _ _ _ => cases ht
            | exc _ _ _ => cases ht
            | bth _ => cases ht
      · cases hg
    · cases hg
  · cases hg
def tEmpD : TE := fun _ H Q => ∀ p, H p = none → Q (.ref p) (upd H p (.frz { cls := .type "dict", data := .dict #[] } (.dK [])))
theorem pe_empD {pos : Pos} : PE X (.Dict [] [] pos) tEmpD := ⟨fun pins s σ H Q I h =>
  wpAny_Dict_empty ⟨.ref s.heap.objs.size, _, I.laid (a := s.heap.objs.size) (o := .frz { cls := .type "dict", data := .dict #[] } (.dK [])) (t' := s.toks) (fun _ _ q => Heap.get?_push_of_some _ q) (Nat.le_refl _)
    ⟨Heap.get?_push_size _ rfl, dk_empty s.heap I.big⟩, rfl, h _ (I.hok.fresh (Nat.le_refl _))⟩⟩
theorem ve_empD {pos : Pos} : PE X (.Dict [] [] pos) (vt c (sK (.dct false [] []))) := pe_of pe_empD fun σ H Q ⟨F, ρ, I, d, ρ', e, q⟩ p hp => by
  cases e
  have g := Grow.new (o := .frz { cls := .type "dict", data := .dict #[] } (.dK [])) I.fh hp
  exact q _ _ _ g.f (I.grow g) (.dct ⟨[], upd_same, rfl, rfl, Nat.zero_le _⟩ .nil)
def gIsTy2 (T : Nat) : G1
  | .dct false _ _ => some (.bl false)
  | d => gIsTy T d
theorem isTy2_rule (T : Nat) (hT : T < 5) {F H : Hp} {x : V} {d r : D} (e : Ext F H) (h : Rep c.G F x d) (hg : gIsTy2 T d = some r) : ∃ t b, TyX X.K H x t ∧ PySem.W.kitOne X.K t (.type (tyName T)) = some b ∧ r = .bl b := by
  unfold gIsTy2 at hg
  split at hg
  · cases hg
    cases h with
    | dct q _ =>
      obtain ⟨kvs, q1, _⟩ := dct_fz q
      refine ⟨_, false, .fDict (e _ _ q1), ?_, rfl⟩
      match T, hT with
      | 0, _ => exact kit_ty (by decide +kernel)
      | 1, _ => exact kit_ty (by decide +kernel)
      | 2, _ => exact kit_ty (by decide +kernel)
      | 3, _ => exact kit_ty (by decide +kernel)
      | 4, _ => exact kit_ty (by decide +kernel)
  · exact isTy_rule T hT e h hg
theorem ve_isTy2 {e : Expr} {x : Str} {s : SE} {p p2 pos : Pos} (T : Nat) (hT : T < 5) (hm : X.mg "isinstance" = none) (he : PE X e (vt c s)) (hm2 : X.mg x = none) (hv2 : bootBuiltins x = some (.type (tyName T))) (hg : Gl X "isinstance" := by rfl) (hg2 : Gl X x := by rfl)
    (n2 : x ≠ "__name__" := by decide) (d2 : (x == ("__debug__" : Str)) = false := by decide)
    (h1 : starEach [e, .Name x p2] X.env = (false, eval e X.env) :: starEach [.Name x p2] X.env := by rfl) (h2 : starEach [.Name x p2] X.env = (false, eval (.Name x p2) X.env) :: starEach [] X.env := by rfl)
    (hpl : (backTo pos (starEach [.Name x p2] X.env)).any (·.1) = false := by rfl) :
    PE X (.Call (.Name "isinstance" p) [e, .Name x p2] [] pos) (vt c (s1 (gIsTy2 T) s)) := by
  refine pe_of (pe_callB call_isi hg hm (by decide +kernel) (pa_cons he (pa_cons (pe_bltn (v := .ty (tyName T)) hg2 hm2 hv2 rfl n2 d2) pa_nil h2) h1) (by decide) (by decide) h1 hpl) fun σ H Q ⟨F, ρ, I, d, ρ', e, q⟩ => ?_
  obtain ⟨y, e1, e2⟩ := s1_inv e
  refine ⟨F, ρ, I, y, ρ', e1, fun v H1 F1 x1 I1 r1 => ?_⟩
  obtain ⟨t, b, g1, g2, g3⟩ := isTy2_rule (X := X) T hT I1.fh r1 e2
  subst g3
  exact ⟨v, .ty (tyName T), t, _, b, rfl, .ty _, g1, g2, q _ _ _ x1 I1 (.bl _)⟩
theorem ve_isXC {e : Expr} {x : Str} {s : SE} {p p2 pos : Pos} {tab : List (Nat × Bool)} {C : Addr} (T : XiAll c.G.K c.G (.ref C) tab) (hK : X.K = c.G.K) (hm : X.mg "isinstance" = none) (he : PE X e (vt c s)) (hm2 : X.mg x = some (.ref C)) (hg : Gl X "isinstance" := by rfl) (hg2 : Gl X x := by rfl)
    (d2 : (x == ("__debug__" : Str)) = false := by decide)
    (h1 : starEach [e, .Name x p2] X.env = (false, eval e X.env) :: starEach [.Name x p2] X.env := by rfl) (h2 : starEach [.Name x p2] X.env = (false, eval (.Name x p2) X.env) :: starEach [] X.env := by rfl)
    (hpl : (backTo pos (starEach [.Name x p2] X.env)).any (·.1) = false := by rfl) :
    PE X (.Call (.Name "isinstance" p) [e, .Name x p2] [] pos) (vt c (s1 (gIsX tab) s)) :=
  ve_isX T hK hm he (pe_glob (v := .ref C) hg2 hm2 rfl d2) (fun _ z => z) hg h1 h2 hpl
end
end VS

set_option Elab.async false
set_option linter.all false
set_option maxRecDepth 100000
set_option maxHeartbeats 4000000
namespace VS
open PySem PySem.Spec PyProof.Rows L2
def SupBinds (st : Stmt) (qual : Str) (args : Args) (r : List (Str × Value)) : Prop := ∀ (T cc : Addr) (kV doc pm ct cdv : Value) (an : Option Addr), ∃ k : Option (Array Value) → Sem (List (Str × Value)),
  bindArgs (PySem.W.fnX "__init__" qual (defArgs st) (defBody st) (defScope st) [("__class__", cc)] (.ref T) kV doc pm an cdv ct) args = seqItems? (.ref T) >>= k ∧ k (some #[.none]) = pure r
theorem ve_isXE {c : Ctx} {X : Cx} {e : Expr} {x : Str} {s : SE} {p p2 pos : Pos} {tab : List (Nat × Bool)} (T : ∃ C, X.mg x = some (.ref C) ∧ XiAll c.G.K c.G (.ref C) tab) (hK : X.K = c.G.K) (hm : X.mg "isinstance" = none) (he : PE X e (vt c s)) (hg : Gl X "isinstance" := by rfl) (hg2 : Gl X x := by rfl)
    (d2 : (x == ("__debug__" : Str)) = false := by decide)
    (h1 : starEach [e, .Name x p2] X.env = (false, eval e X.env) :: starEach [.Name x p2] X.env := by rfl) (h2 : starEach [.Name x p2] X.env = (false, eval (.Name x p2) X.env) :: starEach [] X.env := by rfl)
    (hpl : (backTo pos (starEach [.Name x p2] X.env)).any (·.1) = false := by rfl) :
    PE X (.Call (.Name "isinstance" p) [e, .Name x p2] [] pos) (vt c (s1 (gIsX tab) s)) := by
  obtain ⟨C, h3, h4⟩ := T
  exact ve_isXC h4 hK hm he h3 hg hg2 d2 h1 h2 hpl
theorem calE_mk {P : Program} {G : Gx} {mg : Str → Option Value} {x qual : Str} {st : Stmt} {C f T cda cc : Addr} {oc : Value} {od an : Option Addr} {osl : Array (Option Value)} {kV doc pm ct : Value} {ccl : Value} {cdd : Option Addr} {vs : Array Value} {ccs : Array (Option Value)} {file : Str} {tf : Tok} {cl : Value} {cld : Option Addr} {csl : Array (Option Value)}
    {nm q : Str} {N : Addr} {bs bm : List Value} {sn : List Str} {sub : List Value} {ab : Bool} {col : Option Bool} {dd : Option Addr} {k0 k1 k2 k3 k5 : Option Value} {tc : Value} {td : Option Addr} {tn : Nat} {ts : Array (Option Value)} (k : Nat) (hk : G.cls k = C)
    (S : SupShape st) (B1 : ∀ a v : Value, SupBinds st qual ⟨[a, v], []⟩ [("self", a), ("value", v)]) (B2 : ∀ a v : Value, SupBinds st qual ⟨[a], [("value", v)]⟩ [("self", a), ("value", v)]) (B3 : ∀ a : Value, SupBinds st qual ⟨[a], []⟩ [("self", a), ("value", .none)]) (gm : mg x = some (.ref C)) (ms : mg "super" = none)
    (lk : G.K.lookup f = some ⟨oc, od, .func (PySem.W.fnX "__init__" qual (defArgs st) (defBody st) (defScope st) [("__class__", cc)] (.ref T) kV doc pm an (.ref cda) ct), osl⟩) (cd : PySem.W.codeIn G.K (.ref cda) qual = true)
    (lc : G.K.lookup cda = some ⟨ccl, cdd, .fields vs, ccs⟩) (lv2 : vs[2]? = some (.str file tf)) (lf : ((P.main.file : Str) == file) = true) (le : G.K.lookup cc = some ⟨cl, cld, .cell (some (.ref C)), csl⟩)
    (lt : G.K.lookup T = some ⟨tc, td, .seq #[.none] tn, ts⟩) (top : (P.main.scope.names.lookup ("super" : Str)).isSome = false)
    (lC : G.K.lookup C = some (excClassObj nm q C N bs bm true sn sub ab col dd k0 k1 k2 k3 k5 "ValueError.__new__")) (hbm : PySem.HandSPX.refsVE bm = true)
    (sa : PySem.W.findIn G.K (.ref C) "__setattr__" = some (some (.builtin "object.__setattr__"))) (exC : PySem.W.subIn G.K (.ref C) (.type "BaseException") = some true) (tyC : PySem.W.typeIn G.K (.ref C) = some (.type "type")) (kC : PySem.W.keepIn G.K (.ref C) = true)
    (sup : PySem.W.ks_superIn G.K C C "__init__" = some (some (.builtin "ValueError.__init__"))) (opq : PySem.W.nsIn G.K cStatics "thirdparty.any" = some none) (va : PySem.W.findIn G.K (.ref C) "value" = some none)
    (ini : PySem.W.findIn G.K (.ref C) "__init__" = some (some (.ref f))) (tyf : PySem.W.typeIn G.K (.ref f) = some (.type "function")) (mro : PySem.W.mroIn G.K C (.ref C) = some true) (sb : PySem.W.subIn G.K (.ref C) (.type "ValueError") = some true) : CalE P G mg x k := by
  have bd : ∀ (args : Args) (r : List (Str × Value)), SupBinds st qual args r → ∀ s : Shared, G.K.In s.heap → BindsTo s (PySem.W.fnX "__init__" qual (defArgs st) (defBody st) (defScope st) [("__class__", cc)] (.ref T) kV doc pm an (.ref cda) ct) args r := fun args r B s Y => by
    obtain ⟨k', e1, e2⟩ := B T cc kV doc pm ct (.ref cda) an
    exact PySem.W.binds_K Y rfl lt rfl e1 e2
  subst hk
  refine ⟨f, _, ⟨⟨oc, od, osl, lk⟩, ?_, top, ⟨⟨nm, q, N, bs, bm, sn, sub, ab, col, dd, k0, k1, k2, k3, k5, lC, hbm⟩, sa, exC, tyC, kC⟩, sup, opq, va, ini, tyf, mro, sb⟩, kC, gm, ms, fun s a v Y => bd _ _ (B1 a v) s Y, fun s a v Y => bd _ _ (B2 a v) s Y, fun s a Y => bd _ _ (B3 a) s Y⟩
  obtain ⟨p0, p1, p2, p3, p4, p5, q1, q2, q3, q4, eb, h24⟩ := S.body
  obtain ⟨ar, h1, h2⟩ := S.par
  exact ⟨qual, defArgs st, p0, p1, p2, p3, p4, p5, q1, q2, q3, q4, defScope st, .ref T, kV, doc, pm, ct, an, cda, cc, ar, by rw [eb], cd, h1, h2, h24, S.ls, S.lv, S.lsu, S.lcl, S.nc, S.co, S.gen, S.kind, ⟨ccl, cdd, vs, ccs, file, tf, lc, lv2, lf⟩, cl, cld, csl, le⟩
theorem xi_nil {K : PySem.W.Frag} {G : Gx} {cv : Value} : XiAll K G cv [] := fun k b h => by cases h
theorem xi_cons {K : PySem.W.Frag} {G : Gx} {cv : Value} {k : Nat} {b : Bool} {tab : List (Nat × Bool)} (E : ExcC K (G.cls k)) (h : PySem.W.kitOne K (.ref (G.cls k)) cv = some b) (r : XiAll K G cv tab) : XiAll K G cv ((k, b) :: tab) := fun k' b' e => by
  rw [List.lookup_cons] at e
  by_cases z : (k' == k) = true
  · rw [z] at e
    cases e
    have : k' = k := by simpa using z
    subst this
    exact ⟨E, h⟩
  · have z' : (k' == k) = false := by simpa using z
    rw [z'] at e
    exact r k' b' e
theorem xv_nil {K : PySem.W.Frag} {G : Gx} : XvAll K G [] := fun k h => by cases h
theorem xv_cons {K : PySem.W.Frag} {G : Gx} {k : Nat} {ks : List Nat} (h1 : XfC K (G.cls k)) (h2 : PySem.W.findIn K (.ref (G.cls k)) "value" = some none) (r : XvAll K G ks) : XvAll K G (k :: ks) := fun k' h => by
  rcases List.mem_cons.mp h with e | h
  · subst e; exact ⟨h1, h2⟩
  · exact r k' h
end VS

set_option Elab.async false
set_option linter.all false
set_option maxRecDepth 100000
set_option maxHeartbeats 4000000
namespace VS
open PySem PySem.Spec PyProof.Rows L2
section
variable {c : Ctx} {X : Cx}
end
end VS

set_option Elab.async false
set_option linter.all false
set_option maxRecDepth 100000
set_option maxHeartbeats 4000000
namespace VS
open PySem PySem.Spec PyProof.Rows L2
def vsQ (G : Gx) (m : SS) : TS := fun E σ H => ∃ c : Ctx, c.G = G ∧ vs c m E σ H
def vbQ (G : Gx) (m : SB) : TT := fun σ H Q => ∃ c : Ctx, c.G = G ∧ vb c m σ H Q
def vtQ (G : Gx) (m : SE) : TE := fun σ H Q => ∃ c : Ctx, c.G = G ∧ vt c m σ H Q
section
variable {X : Cx} {G : Gx}
theorem ps_x {st : Stmt} {m : SS} (hh : ∀ c : Ctx, c.G = G → PS X st (vs c m)) : PS X st (vsQ G m) := ⟨fun pins s σ H Q I ⟨c0, hc, q⟩ => (hh c0 hc).run pins s σ H Q I q⟩
theorem pt_x {e : Expr} {m : SB} (hh : ∀ c : Ctx, c.G = G → PT X e (vb c m)) : PT X e (vbQ G m) := ⟨fun pins s σ H Q I ⟨c0, hc, q⟩ => (hh c0 hc).run pins s σ H Q I q⟩
theorem pe_x {e : Expr} {m : SE} (hh : ∀ c : Ctx, c.G = G → PE X e (vt c m)) : PE X e (vtQ G m) := ⟨fun pins s σ H Q I ⟨c0, hc, q⟩ => (hh c0 hc).run pins s σ H Q I q⟩
end
theorem Ok.conv {c : Ctx} {F H : Hp} {σ : L2.St} {ρ ρ' : Rho} (I : Ok c F H σ ρ) (len : ρ'.length = ρ.length) (h : ∀ (i : Nat) s', ρ'[i]? = some s' → s' = .no ∨ ∃ s, ρ[i]? = some s ∧ (s'.mut = true → s.mut = true) ∧ ∀ ov, σ[i]? = some ov → SlOk c F H ov s → SlOk c F H ov s') : Ok c F H σ ρ' where
  len := I.len.trans len.symm
  f0 := I.f0
  fh := I.fh
  fr := I.fr
  al := I.al
  n0 := I.n0
  sl := fun i s' e => by
    rcases h i s' e with z | ⟨s, h1, h2, h3⟩
    · subst z
      have hl : i < ρ'.length := (List.getElem?_eq_some_iff.mp e).1
      have hs : i < σ.length := by rw [I.len, ← len]; exact hl
      refine ⟨σ[i], by rw [List.getElem?_eq_getElem hs], ?_⟩
      cases σ[i] <;> trivial
    · obtain ⟨ov, k1, k2⟩ := I.sl i s h1
      exact ⟨ov, k1, h3 ov k1 k2⟩
  ap := fun i j s t p q hi hj ms mt h1 h2 e => by
    rcases h i s hi with z | ⟨s0, a1, a2, a3⟩
    · subst z; cases ms
    · rcases h j t hj with z | ⟨t0, b1, b2, b3⟩
      · subst z; cases mt
      · exact I.ap i j s0 t0 p q a1 b1 (a2 ms) (b2 mt) h1 h2 e
  hb := I.hb
  tb := I.tb
def rm1 (p : Addr) (F : Hp) : Hp := fun b => if b = p then none else F b
theorem rm1_same {p : Addr} {F : Hp} : rm1 p F p = none := if_pos rfl
theorem rm1_ne {p b : Addr} {F : Hp} (h : b ≠ p) : rm1 p F b = F b := if_neg h
mutual
/-- no list of n things within -/
def noL (n : Nat) : D → Bool
  | .lst ds => (ds.length != n) && noLs n ds
  | .tup ds => noLs n ds
  | .ins _ ds => noLs n ds
  | .exc _ d => noL n d
  | .bth _ d => noL n d
  | .scr _ => false
  | .dct _ _ _ => false
  | _ => true
def noLs (n : Nat) : List D → Bool
  | [] => true
  | d :: ds => noL n d && noLs n ds
end
mutual
theorem Rep.rm {G : Gx} {F : Hp} {p : Addr} {us : List V} (hp : F p = some (.lst us)) : ∀ {v : V} {d : D}, Rep G F v d → noL us.length d = true → Rep G (rm1 p F) v d
  | _, _, .non, _ => .non
  | _, _, .bl b, _ => .bl b
  | _, _, .int i, _ => .int i
  | _, _, .str x, _ => .str x
  | _, _, .adr a, _ => .adr a
  | _, _, .lst (a := a) h r, z => by
    simp only [noL, Bool.and_eq_true] at z
    have ne : a ≠ p := fun e => by
      subst e
      rw [hp] at h
      cases h
      have := r.length
      rw [this] at z
      simp at z
    exact .lst (by rw [rm1_ne ne]; exact h) (Reps.rm hp r z.2)
  | _, _, .tup (a := a) h r, z => by
    have ne : a ≠ p := fun e => by subst e; rw [hp] at h; cases h
    exact .tup (by rw [rm1_ne ne]; exact h) (Reps.rm hp r z)
  | _, _, .ins (a := a) h n r, z => by
    have ne : a ≠ p := fun e => by subst e; rw [hp] at h; cases h
    exact .ins (by rw [rm1_ne ne]; exact h) n (Reps.rm hp r z)
  | _, _, .exc (a := a) (dx := dx) h h2 r, z => by
    have ne : a ≠ p := fun e => by subst e; rw [hp] at h; cases h
    have ne2 : dx ≠ p := fun e => by subst e; rw [hp] at h2; cases h2
    exact .exc (by rw [rm1_ne ne]; exact h) (by rw [rm1_ne ne2]; exact h2) (Rep.rm hp r z)
  | _, _, .bth r, z => .bth (Rep.rm hp r z)
  | _, _, .scr _ _, z => by cases z
  | _, _, .dct _ _, z => by cases z
theorem Reps.rm {G : Gx} {F : Hp} {p : Addr} {us : List V} (hp : F p = some (.lst us)) : ∀ {vs : List V} {ds : List D}, Reps G F vs ds → noLs us.length ds = true → Reps G (rm1 p F) vs ds
  | _, _, .nil, _ => .nil
  | _, _, .cons h r, z => by
    simp only [noLs, Bool.and_eq_true] at z
    exact .cons (Rep.rm hp h z.1) (Reps.rm hp r z.2)
end
theorem Rep.rm_upd {G : Gx} {F : Hp} {p : Addr} {us : List V} {o : HO} {v : V} {d : D} (hp : F p = some (.lst us)) (r : Rep G F v d) (z : noL us.length d = true) : Rep G (upd F p o) v d :=
  (Rep.rm hp r z).ext fun b u e => by
    by_cases y : b = p
    · subst y; rw [rm1_same] at e; cases e
    · rw [rm1_ne y] at e; rw [upd_ne y]; exact e
theorem Reps.rm_upd {G : Gx} {F : Hp} {p : Addr} {us : List V} {o : HO} {vs : List V} {ds : List D} (hp : F p = some (.lst us)) (r : Reps G F vs ds) (z : noLs us.length ds = true) : Reps G (upd F p o) vs ds :=
  (Reps.rm hp r z).ext fun b u e => by
    by_cases y : b = p
    · subst y; rw [rm1_same] at e; cases e
    · rw [rm1_ne y] at e; rw [upd_ne y]; exact e
theorem Ok.chgd {c : Ctx} {F H : Hp} {σ : L2.St} {ρ ρ' : Rho} {p : Addr} {us ws : List V} (I : Ok c F H σ ρ) (hF : F p = some (.lst us)) (len : ρ'.length = ρ.length)
    (h : ∀ (j : Nat) s', ρ'[j]? = some s' → s' = .no ∨ ∃ d v, s' = .val d ∧ σ[j]? = some (some v) ∧ Rep c.G (upd F p (.lst ws)) v d) : Ok ⟨c.G, upd F p (.lst ws), upd H p (.lst ws), []⟩ (upd F p (.lst ws)) (upd H p (.lst ws)) σ ρ' where
  len := I.len.trans len.symm
  f0 := Ext.rfl'
  fh := fun b o e => by
    by_cases z : b = p
    · subst z; rw [upd_same] at e ⊢; exact e
    · rw [upd_ne z] at e ⊢; exact I.fh _ _ e
  fr := fun q o e _ _ => e
  al := fun q o e => ⟨o, e⟩
  n0 := fun q o _ n => n
  sl := fun j s' e => by
    have hl : j < ρ'.length := (List.getElem?_eq_some_iff.mp e).1
    have hs : j < σ.length := by rw [I.len, ← len]; exact hl
    rcases h j s' e with z | ⟨d, v, z, h1, h2⟩
    · subst z
      refine ⟨σ[j], by rw [List.getElem?_eq_getElem hs], ?_⟩
      cases σ[j] <;> trivial
    · subst z
      exact ⟨some v, h1, h2⟩
  ap := fun a b s t p' q' ha hb ms mt _ _ _ => by
    rcases h a s ha with z | ⟨d, v, z, _, _⟩ <;> subst z <;> cases ms
  hb := fun q hq => by cases hq
  tb := ⟨tabs_upd I.tb.t (I.fh _ _ hF) nt_lst nc_lst, fun q hq => by
    have n := I.tb.n q hq
    by_cases z : q.1 = p
    · rw [z, hF] at n; cases n
    · rw [upd_ne z]; exact n⟩
end VS

set_option Elab.async false
set_option linter.all false
set_option maxRecDepth 100000
set_option maxHeartbeats 4000000
namespace VS
open PySem PySem.Spec PyProof.Rows L2
section
variable {X : Cx} {pins : List (Addr × Obj)} {σ : L2.St} {H : Hp} {s : Shared} {a C dx : Addr} {oe : Obj} {vs : Array Value}
theorem inv_track (I : Inv X pins σ H s) (ha : s.heap.get? a = some oe) (h1 : oe.cls = .ref C) (h2 : oe.dict = some dx) (h3 : oe.data = .fields vs) (na : H a = none) (n0 : X.s_0.heap.get? a = none) (nL : a ≠ X.env.locals) (np : ∀ p ∈ X.pn ++ pins, p.1 ≠ a) :
    Inv X pins σ (upd H a (exq a C dx)) s where
  ok := I.ok
  os := I.os
  bare := I.bare
  base := {
    keep := I.base.keep
    slot := I.base.slot
    free := fun b o e n x => by
      have z : b ≠ a := fun z => by rw [z, n0] at e; cases e
      rw [upd_ne z]
      exact I.base.free b o e n x
    there := I.base.there
    tups := fun b xs e => by
      have k := I.base.tups b xs e
      have z : b ≠ a := fun z => by rw [z, na] at k; cases k
      rw [upd_ne z]
      exact k
    frzs := fun b u v e => by
      have k := I.base.frzs b u v e
      have z : b ≠ a := fun z => by rw [z, na] at k; cases k
      rw [upd_ne z]
      exact k
    tbls := fun b ps e => by
      obtain ⟨m, k⟩ := I.base.tbls b ps e
      have z : b ≠ a := fun z => by rw [z, na] at k; cases k
      exact ⟨m, by rw [upd_ne z]; exact k⟩ }
  loc := I.loc
  cell := I.cell
  free := by rw [upd_ne (Ne.symm nL)]; exact I.free
  freeC := fun x c e => by
    have z : c ≠ a := fun z => by
      obtain ⟨v, oc, e1, e2⟩ := I.cell x c e
      rw [z, ha] at e1
      cases e1
      rw [h3] at e2
      cases e2
    rw [upd_ne z]
    exact I.freeC x c e
  pin := fun p hp => by
    obtain ⟨k1, k2, k3⟩ := I.pin p hp
    exact ⟨k1, by rw [upd_ne (np p hp)]; exact k2, k3⟩
  hok := fun b o e => by
    by_cases z : b = a
    · subst z
      rw [upd_same] at e
      cases e
      exact exq_ok ha h1 h2 h3
    · rw [upd_ne z] at e
      have ne : ∀ y u, H y = some u → y ≠ a := fun y u k q => by rw [q, na] at k; cases k
      exact (I.hok b o e).stay (fun _ _ _ k => k) (fun y k => by rw [upd_ne (ne _ _ k)]; exact k) fun y xs k => by rw [upd_ne (ne _ _ k)]; exact k
  len := I.len
end
def wKeep (K : PySem.W.Frag) (c : Value) (i j : Nat) (Wout : WX) (D : Ends) : WX := fun cls d σ H => ∃ b, PySem.W.exmOne K cls c = some b ∧ (b = false → Wout cls d σ H) ∧
  (b = true → ∃ C dx, cls = .ref C ∧ d = some dx ∧ ∀ a, H a = none → D.nx (((σ.set i (some (V.ref a))).set j (some (V.ref a))).set i none) (upd H a (exq a C dx)))
section
variable {X : Cx} {x n : Str} {c : Value} {i j : Nat} {body : List Stmt} {keep : Stmt} {np pos pos' : Pos} {tb : WX → TS} {Wout : WX}
theorem ps_tryKeep (hex : X.ex = []) (hs : X.stack = X.env :: X.outer) (hf : X.env.frame = some X.env.locals) (hN : X.N.Nodup) (hi : X.N[i]? = some n) (hln : X.env.kindOf n = some .local) (hc : Names X x c) (tk : Takes X Wout)
    (hb : ∀ (W : WX) (ps : List (Addr × Obj)) (xe : Value → Shared → Prop), Takes (X.tr ps xe) W → PassesOwn (model X.prog X.w) X.A X.env xe → PSs (X.tr ps xe) body (tb W))
    (hk : ∀ (a : Addr) (oe : Obj) (ps : List (Addr × Obj)), PS (X.suite a ((a, oe) :: ps)) keep (tAsg (tVar i) (gName j))) :
    PS X (.Try body [.ExceptHandler (some (.Name x np)) (some n) [keep] pos'] [] [] pos) (fun D σ H => tb (wKeep X.K c i j Wout D) D σ H) := by
  refine ⟨fun pins s σ H D I h => ?_⟩
  have ok := I.ok
  have frame : X.A.frames = some (X.env :: X.outer) := by rw [ok.frames, hs]
  -- the body, with the catching as its wish
  have T : Takes (X.tr (X.pn ++ pins) fun e s1 => wpAny (model X.prog X.w) X.A (noteFrame e X.env) (fun _ s2 => wpAny (model X.prog X.w) X.A (setFlight e none) (fun _ s3 =>
      wpAny (model X.prog X.w) X.A (handleBy e X.env [.ExceptHandler (some (.Name x np)) (some n) [keep] pos']) (SP X pins D) X.xe s3) X.xe s2) X.xe s1) (wKeep X.K c i j Wout D) := fun u s' E => by
    obtain ⟨a, B, sI, pins', σ', H', cls, d, rfl, J', ground, up, sky, na, os, ag, b, hb1, hno, hyes⟩ := E
    have J : Inv X pins σ' H' sI := J'.ofTry ok
    rw [show (X.tr (X.pn ++ pins) _).stack = X.env :: X.outer from hs] at sky
    refine Sky.land Zc.steady frame hf sky fun h3 fl3 up3 => ?_
    have J3 : Inv X pins σ' H' { s' with heap := h3 } := J.landed ground fl3.1 (up.trans up3) os ag
    obtain ⟨o3, v3, e3, z3, d3⟩ := fl3.there
    -- it is none of the frames
    have notFrame : a ∉ frs (X.env :: X.outer) := fun hm => by
      obtain ⟨_, o', e', hnf⟩ := fl3.2.2.1.mem hm
      rw [e3] at e'
      cases e'
      exact hnf _ d3
    have nL : a ≠ X.env.locals := fun z => notFrame (List.mem_filterMap.mpr ⟨X.env, List.mem_cons_self, by rw [hf, z]⟩)
    have nF : a ∉ X.fs := fun hm => by
      obtain ⟨e, he, q⟩ := List.mem_filterMap.mp hm
      exact notFrame (List.mem_filterMap.mpr ⟨e, List.mem_cons_of_mem _ he, q⟩)
    -- it is new since the def's entry, and since the try
    have newI : sI.heap.get? a = none := by
      cases q : sI.heap.get? a with
      | none => rfl
      | some o =>
        have z := ground a o q (by rw [show (X.tr (X.pn ++ pins) _).stack = X.env :: X.outer from hs]; exact notFrame)
        rw [fl3.2.1] at z
        cases z
    have new0 : X.s_0.heap.get? a = none := by
      cases q : X.s_0.heap.get? a with
      | none => rfl
      | some o =>
        obtain ⟨o', e'⟩ := J.base.there a o q (by rw [hex]; exact List.not_mem_nil)
        rw [newI] at e'
        cases e'
    have newP : ∀ p ∈ X.pn ++ pins, p.1 ≠ a := fun p hp z => by
      have k := (J.pin p hp).1
      rw [z, newI] at k
      cases k
    have S3 := J3.suite e3 d3 na nL nF
    refine wpAny_handleBy_cons (codeAny_handlers_test ?_) (by intro q; cases q)
    have LT : PySem.W.Looks (model X.prog X.w) h3 (typeOf (.ref a)) cls := fun A Q E s k q => wpAny_typeOf_ref (k _ _ e3) (by rw [z3.1]; exact q)
    have LM := PySem.W.exm_one (M := model X.prog X.w) J3.kIn LT hb1
    have named : ∀ {Q : Value → Shared → Prop} {E : Value → Shared → Prop}, Q c { s' with heap := h3 } → wpAny (model X.prog X.w) (X.A.mark (some (.ref a))) (eval (.Name x np) X.env) Q E { s' with heap := h3 } := fun {Q E} q => by
      obtain ⟨hg, hdb, hm | ⟨hm, hv, hnn⟩⟩ := hc
      · exact ld_glob (X := X.suite a ((a, o3) :: (X.pn ++ pins))) S3 hg hm q hdb
      · exact ld_blt (X := X.suite a ((a, o3) :: (X.pn ++ pins))) S3 hg hm hv q hnn hdb
    refine named (LM.here ?_)
    cases b with
    | true =>
      obtain ⟨C, dx, rfl, rfl, hend⟩ := hyes rfl
      refine codeAny_handlers_suite_as (HandSPX.lands_againZ fl3 fun h4 fl4 up4 => ?_)
      have J4 : Inv X pins σ' H' { s' with heap := h4 } := J.landed ground fl4.1 ((up.trans up3).trans up4) os ag
      obtain ⟨o4, v4, e4, z4, d4⟩ := fl4.there
      have S4 := J4.suite e4 d4 na nL nF
      refine store_ok (X := X.suite a ((a, o4) :: (X.pn ++ pins))) (v := .ref a) S4 hN hi (.inl hln) rfl (fun s5 S5 => ?_) (.inr hln)
      have hl5 : i < (σ'.set i (some (V.ref a))).length := by
        have := (List.getElem?_eq_some_iff.mp hi).1
        rw [S5.len]
        exact this
      have run := (pss_one (hk a o4 (X.pn ++ pins))).run [] s5 _ H' { nx := fun σ6 H6 => σ6 = (σ'.set i (some (V.ref a))).set j (some (V.ref a)) ∧ H6 = H', rt := fun _ _ => False } S5
        ⟨V.ref a, by rw [List.getElem?_set_self (by rw [List.length_set] at hl5; exact hl5)], rfl, rfl⟩
      refine wpAny_mono run (fun f s6 q => ?_) fun _ _ z => False.elim z
      match f, q with
      | .next, ⟨σ6, H6, S6, e6, e7⟩ =>
        subst e6 e7
        refine gone_ok (X := X.suite a ((a, o4) :: (X.pn ++ pins))) S6 hN hi hln fun s7 S7 => ?_
        have k7 := (S7.pin (a, o4) (List.mem_append_left _ List.mem_cons_self)).1
        have J7 : Inv X pins _ H6 s7 := S7.unsuite ok
        exact ⟨_, _, inv_track J7 k7 z4.1 z4.2 d4 na new0 nL newP, hend a na⟩
      | .brk, ⟨_, _, _, z⟩ => exact z.elim
      | .cont, ⟨_, _, _, z⟩ => exact z.elim
      | .ret u, ⟨_, _, _, _, _, z⟩ => exact z.elim
    | false =>
      refine wpAny_handleBy_nil ?_
      obtain ⟨_, _, _, oh, vh, T, oT, th, eh, zh, dh, g1, _⟩ := id fl3
      unfold PySem.passOn
      refine wpAny_bind (wpAny_field eh dh g1 ?_)
      rw [if_neg (show ¬ ((Value.ref T == Value.none) = true) from by simp)]
      have out : wpAny (model X.prog X.w) X.A (setFlight (.ref a) X.env.frame) (fun _ s4 => wpAny (model X.prog X.w) X.A (throw (.ref a) : Sem Flow) (SP X pins D) X.xe s4) X.xe { s' with heap := h3 } := by
        rw [hf]
        refine HandSPX.setFlight_upZ fl3 fun h4 hh4 up4 => wpAny_throw (tk _ _ ?_)
        exact ⟨a, B, sI, pins, σ', H', cls, d, rfl, J, ground, (up.trans up3).trans up4, .inr (.inr (by rw [hs]; exact hh4)), na, os, ag, hno rfl⟩
      first
        | exact wpAny_bind (wpAny_pure (wpAny_bind out))
        | exact wpAny_bind out
  refine wpAny_Try_except (wpAny_mono ((hb _ _ _ T PassesOwn.looking).run [] s σ H D (I.toTry _) h) (fun f s1 q => ?_) fun e s1 he => he)
  match f, q with
  | .next, ⟨σ', H', J', q⟩ => exact wpAny_execs_nil ⟨σ', H', J'.ofTry ok, q⟩
  | .brk, ⟨σ', H', J', q⟩ => exact ⟨σ', H', J'.ofTry ok, q⟩
  | .cont, ⟨σ', H', J', q⟩ => exact ⟨σ', H', J'.ofTry ok, q⟩
  | .ret u, ⟨v, σ', H', J', r, q⟩ => exact ⟨v, σ', H', J'.ofTry ok, r, q⟩
end
end VS

set_option Elab.async false
set_option linter.all false
set_option maxRecDepth 100000
set_option maxHeartbeats 4000000
namespace VS
open PySem PySem.Spec PyProof.Rows L2
inductive Rz where
  | go (fl : Fl) (ρ : Rho) | xc (k : Nat) (d : D) (ρ : Rho)
abbrev SX := Rho → Option Rz
inductive Re where
  | v (d : D) (ρ : Rho) | xc (k : Nat) (d : D) (ρ : Rho)
abbrev EX := Rho → Option Re
def xEnd (c : Ctx) (W : WX) (E : Ends) (F : Hp) : Rz → Prop
  | .go fl ρ' => vEnd c E F fl ρ'
  | .xc k d ρ' => ∀ σ' H' F' dx v, Ext F F' → Ok c F' H' σ' ρ' → F' dx = some (.xd [("value", v)]) → Rep c.G F' v d → W (.ref (c.G.cls k)) (some dx) σ' H'
def vx (c : Ctx) (W : WX) (s : SX) : TS := fun E σ H => ∃ F ρ, Ok c F H σ ρ ∧ ∃ r, s ρ = some r ∧ xEnd c W E F r
def rEnd (c : Ctx) (W : WX) (Q : VK) (F : Hp) (σ : L2.St) : Re → Prop
  | .v d ρ' => ∀ v H' F', Ext F F' → Ok c F' H' σ ρ' → Rep c.G F' v d → Q v H'
  | .xc k d ρ' => ∀ H' F' dx v, Ext F F' → Ok c F' H' σ ρ' → F' dx = some (.xd [("value", v)]) → Rep c.G F' v d → W (.ref (c.G.cls k)) (some dx) σ H'
def vr (c : Ctx) (W : WX) (s : EX) : TE := fun σ H Q => ∃ F ρ, Ok c F H σ ρ ∧ ∃ r, s ρ = some r ∧ rEnd c W Q F σ r
theorem xEnd.ext {c : Ctx} {W : WX} {E : Ends} {F F' : Hp} {r : Rz} (h : xEnd c W E F r) (e : Ext F F') : xEnd c W E F' r := by
  cases r with
  | go fl ρ => exact vEnd.ext h e
  | xc k d ρ => exact fun σ' H' F2 dx v x => h σ' H' F2 dx v (e.trans x)
theorem rEnd.ext {c : Ctx} {W : WX} {Q : VK} {F F' : Hp} {σ : L2.St} {r : Re} (h : rEnd c W Q F σ r) (e : Ext F F') : rEnd c W Q F' σ r := by
  cases r with
  | v d ρ => exact fun v H2 F2 x => h v H2 F2 (e.trans x)
  | xc k d ρ => exact fun H2 F2 dx v x => h H2 F2 dx v (e.trans x)
def xGo (s : SS) : SX := fun ρ => match s ρ with
  | some (fl, ρ') => some (.go fl ρ')
  | none => none
def xN : SX := fun ρ => some (.go .nx ρ)
def xS (a b : SX) : SX := fun ρ => match a ρ with
  | some (.go .nx ρ1) => b ρ1
  | r => r
def xIf (t : SB) (a b : SX) : SX := fun ρ => match t ρ with
  | some (true, ρ1) => a ρ1
  | some (false, ρ1) => b ρ1
  | none => none
def xRaise (k : Nat) (e : SE) : SX := fun ρ => match e ρ with
  | some (d, ρ1) => some (.xc k d ρ1)
  | none => none
def xDrop (e : EX) : SX := fun ρ => match e ρ with
  | some (.v _ ρ1) => some (.go .nx ρ1)
  | some (.xc k d ρ1) => some (.xc k d ρ1)
  | none => none
def xRet (e : EX) : SX := fun ρ => match e ρ with
  | some (.v d ρ1) => some (.go (.rt d) ρ1)
  | some (.xc k d ρ1) => some (.xc k d ρ1)
  | none => none
def xSet (i : Nat) (e : EX) : SX := fun ρ => match e ρ with
  | some (.v d ρ1) => some (.go .nx (ρ1.set i (.val d)))
  | some (.xc k d ρ1) => some (.xc k d ρ1)
  | none => none
section
variable {c : Ctx} {X : Cx} {W : WX}
theorem go_w {s : SS} (σ : L2.St) (H : Hp) (E : Ends) (h : vx c W (xGo s) E σ H) : vs c s E σ H := by
  obtain ⟨F, ρ, I, r, e, q⟩ := h
  unfold xGo at e
  split at e
  · cases e; exact ⟨F, ρ, I, _, _, by assumption, q⟩
  · cases e
theorem x_go {st : Stmt} {s : SS} (h : PS X st (vs c s)) : PS X st (vx c W (xGo s)) := ps_of h go_w
theorem x_nil : PSs X [] (vx c W xN) := pss_of pss_nil fun σ H E ⟨F, ρ, I, r, e, q⟩ => by cases e; exact q σ H F Ext.rfl' I
theorem x_one {st : Stmt} {s : SX} (h : PS X st (vx c W s)) : PSs X [st] (vx c W s) := pss_one h
theorem x_cons {st : Stmt} {r : List Stmt} {a b : SX} (h1 : PS X st (vx c W a)) (h2 : PSs X r (vx c W b)) : PSs X (st :: r) (vx c W (xS a b)) := pss_of (pss_cons h1 h2) fun σ H E ⟨F, ρ, I, r, e, q⟩ => by
  unfold xS at e
  split at e
  · rename_i ρ1 e1
    exact ⟨F, ρ, I, _, e1, fun σ1 H1 F1 x1 I1 => ⟨F1, ρ1, I1, r, e, q.ext x1⟩⟩
  · rename_i e0
    refine ⟨F, ρ, I, r, e, ?_⟩
    cases r with
    | xc k d ρ' => exact q
    | go fl ρ' =>
      cases fl with
      | nx => exact absurd e (e0 _)
      | rt d => exact q
      | bk => exact q
      | ct => exact q
      | rm xs => exact q
theorem x_if {t : Expr} {a b : List Stmt} {st : SB} {sa sb : SX} {pos} (ht : PT X t (vb c st)) (ha : PSs X a (vx c W sa)) (hb : PSs X b (vx c W sb)) : PS X (.If t a b pos) (vx c W (xIf st sa sb)) :=
  ps_of (ps_if ht ha hb) fun σ H E ⟨F, ρ, I, r, e, q⟩ => by
    unfold xIf at e
    split at e
    · rename_i ρ1 e1
      exact ⟨F, ρ, I, true, ρ1, e1, fun H1 F1 x1 I1 => iteT ⟨F1, ρ1, I1, r, e, q.ext x1⟩⟩
    · rename_i ρ1 e1
      exact ⟨F, ρ, I, false, ρ1, e1, fun H1 F1 x1 I1 => iteF ⟨F1, ρ1, I1, r, e, q.ext x1⟩⟩
    · cases e
theorem x_drop {e : Expr} {s : EX} {pos : Pos} (h : PE X e (vr c W s)) (hs : swapsWith e none pos.line X.env = pure false := by rfl) : PS X (.Expr e pos) (vx c W (xDrop s)) :=
  ps_of (ps_expr h hs) fun σ H E ⟨F, ρ, I, r, e, q⟩ => by
    unfold xDrop at e
    split at e
    · rename_i d ρ1 e1
      cases e
      exact ⟨F, ρ, I, _, e1, fun v H1 F1 x1 I1 _ => q σ H1 F1 x1 I1⟩
    · rename_i k d ρ1 e1
      cases e
      exact ⟨F, ρ, I, _, e1, fun H1 F1 dx v x1 I1 g r1 => q σ H1 F1 dx v x1 I1 g r1⟩
    · cases e
theorem x_ret {e : Expr} {s : EX} {pos : Pos} (h : PE X e (vr c W s)) : PS X (.Return (some e) pos) (vx c W (xRet s)) :=
  ps_of (ps_ret h) fun σ H E ⟨F, ρ, I, r, e, q⟩ => by
    unfold xRet at e
    split at e
    · rename_i d ρ1 e1
      cases e
      exact ⟨F, ρ, I, _, e1, fun v H1 F1 x1 I1 r1 => q v σ H1 F1 x1 I1 r1⟩
    · rename_i k d ρ1 e1
      cases e
      exact ⟨F, ρ, I, _, e1, fun H1 F1 dx v x1 I1 g r1 => q σ H1 F1 dx v x1 I1 g r1⟩
    · cases e
theorem x_set {i : Nat} {x : Str} {e : Expr} {s : EX} {pos pos' : Pos} (hN : X.N.Nodup) (h : PE X e (vr c W s)) (hi : X.N[i]? = some x := by rfl) (hx : Loc X.env.scope x := by first | exact Or.inl rfl | exact Or.inr rfl) (hs : swapsWith e (some (.Name x pos')) pos.line X.env = pure false := by rfl) (hf : X.fn x = true ∨ X.env.scope.names.lookup x = some .local := by first | exact .inl rfl | exact .inr rfl) :
    PS X (.Assign [.Name x pos'] e pos) (vx c W (xSet i s)) :=
  ps_of (ps_set hN hi hx h hs hf) fun σ H E ⟨F, ρ, I, r, e, q⟩ => by
    unfold xSet at e
    split at e
    · rename_i d ρ1 e1
      cases e
      exact ⟨F, ρ, I, _, e1, fun v H1 F1 x1 I1 r1 => q _ _ _ x1 (I1.put i r1)⟩
    · rename_i k d ρ1 e1
      cases e
      exact ⟨F, ρ, I, _, e1, fun H1 F1 dx v x1 I1 g r1 => q σ H1 F1 dx v x1 I1 g r1⟩
    · cases e
end
section
variable {X : Cx} {x : Str} {C f : Addr} {fd : FuncData} {p pos : Pos} {e : Expr} {te : TE} {k : Nat}
theorem pmk_sup (T : SupC X.prog X.K C f fd) (hb : ∀ (s : Shared) (a v : Value), X.K.In s.heap → BindsTo s fd ⟨[a, v], []⟩ [("self", a), ("value", v)]) (kp : PySem.W.keepIn X.K (.ref C) = true) (hr : Room (k + 1) X.A) (hg : Gl X x) (hm : X.mg x = some (.ref C)) (ms : X.mg "super" = none) (he : PE X e te)
    (hdb : (x == ("__debug__" : Str)) = false := by decide) (hst : starEach [e] X.env = (false, eval e X.env) :: starEach [] X.env := by rfl) (hpl : (backTo pos (starEach [] X.env)).any (·.1) = false := by rfl) :
    PMk X (.Call (.Name x p) [e] [] pos) (fun σ H Q => tCons te tNil σ H fun vs H1 => ∃ v, vs = [v] ∧ ∀ dx, H1 dx = none → Q (.ref C) (some dx) (upd H1 dx (.xd [("value", v)]))) := by
  intro pins s σ H Q I h
  obtain ⟨nm, qn, N, bs, bm, sn, sub, ab, col, dd, k0, k1, k2, k3, k5, hC, hbm⟩ := T.oex.cls
  refine wpAny_Call_Name_kw (ld_glob I hg hm ?_ hdb)
  refine PySem.W.callWith_K (h₀ := X.base) I.ok.mod.kin kp (thn ((pa_cons he pa_nil hst).run pos pins s σ H _ I h) fun us s2 ⟨vs, H2, I2, rz, v, ez, qv⟩ => ⟨I2.kIn, ?_⟩) hst hpl
  subst ez
  cases rz with
  | @cons _ u0 _ ur ra rn =>
    cases rn
    show wpAny _ _ (call (.ref C) [u0]) _ _ _
    have bk := I2.bk
    have KX := I2.kIn
    have fresh : ∀ n, s2.heap.objs.size ≤ n → X.base.get? n = none := fun n hn => by
      cases z : X.base.get? n with
      | none => rfl
      | some o => exact absurd (Heap.lt_size (bk _ _ z)) (Nat.not_lt.mpr hn)
    obtain ⟨hp, g, dr, tk, os⟩ := s2
    have k1 : ∀ b o, hp.get? b = some o → ((hp.push (PySem.W.kdv_tup [u0])).push (PySem.HandSPX.excO C hp.objs.size)).get? b = some o := fun b o z => Heap.get?_push_of_some _ (Heap.get?_push_of_some _ z)
    have hget : ((hp.push (PySem.W.kdv_tup [u0])).push (PySem.HandSPX.excO C hp.objs.size)).get? (hp.objs.size + 1) = some (PySem.HandSPX.excO C hp.objs.size) := by heap_get
    have hroom : (X.A.under (.builtin "type.__call__" ⟨[.ref C, u0], []⟩)).depth < recursionLimit := (hr.make C [u0] []).depth
    have hsz : hp.objs.size ≤ ((hp.push (PySem.W.kdv_tup [u0])).push (PySem.HandSPX.excO C hp.objs.size)).objs.size := by rw [Heap.size_push, Heap.size_push]; omega
    refine wpAny_call (PySem.HandSPX.call_own F.excBase_ValueError (fun Y => PySem.HandSPX.refsVE_contains Y bm hbm) (KX _ _ hC) (PySem.W.looks_findIn KX T.ini) (fun self => PySem.W.bind_fn KX self T.tyf) (by rw [sizeLine_eq]; show 1 ≤ _; decide) (sup_init T I.ok.mod (fun b o z => k1 b o (bk b o z)) (fresh _ (Nat.le_succ _)) ms hroom hget (hb _ _ _ (KX.keeps k1)) (fun h' tk' dx t1 ks le hx hn => ⟨rfl, ?_⟩)))
    -- the exception set apart: all else is a state of ours
    have kk : ∀ b o, hp.get? b = some o → h'.get? b = some o := fun b o z => ks b o (fun y => by
      subst y
      exact absurd (Heap.lt_size z) (Nat.not_lt.mpr (Nat.le_succ _))) (k1 b o z)
    have ne : hp.objs.size + 1 ≠ dx := fun z => by
      obtain ⟨o, es, ep, e1, e2, _⟩ := hn
      rw [← z, hx] at e1
      cases e1
      cases e2
    obtain ⟨Gh, g1, g2⟩ := L2.restrict h' fun b => b != hp.objs.size + 1
    have gk : ∀ b o, hp.get? b = some o → Gh.get? b = some o := fun b o z => by
      rw [g1 b (by simpa using Nat.ne_of_lt (Nat.lt_succ_of_lt (Heap.lt_size z)))]
      exact kk b o z
    have f2 := I2.hok.fresh (show hp.objs.size ≤ dx from Nat.le_trans hsz le)
    have f1 := I2.hok.fresh (show hp.objs.size ≤ hp.objs.size + 1 from Nat.le_succ _)
    have J := I2.laid (a := dx) (o := .xd [("value", v)]) (t' := tk) (h' := Gh) gk (Nat.le_trans hsz le) ⟨fun y => if y = ("value" : Str) then some u0 else none, by
      obtain ⟨o, es, ep, e1, e2⟩ := hn
      exact ⟨o, es, ep, by rw [g1 dx (by simpa using Ne.symm ne)]; exact e1, e2⟩, fun f => by
      rw [lookup_put]
      show RelO _ (if f = ("value" : Str) then some u0 else none)
      by_cases z : f = ("value" : Str)
      · rw [if_pos z, if_pos z]
        exact ra
      · rw [if_neg z, if_neg z]
        exact True.intro⟩
    exact ⟨hp.objs.size + 1, _, _, _, _, .ref C, some dx, rfl, J, fun b o z => by
      by_cases y : b = hp.objs.size + 1
      · have := g2 b (by simp [y])
        rw [show Gh.get? b = _ from z] at this
        cases this
      · rw [← g1 b (by simpa using y)]
        exact z, g2 _ (by simp), hx, ⟨rfl, rfl⟩, rfl, rfl, by rw [upd_ne ne]; exact f1, rfl, I2.bare, raises_own T.oex.exC T.oex.tyC, qv dx f2⟩
end
section
variable {c : Ctx} {X : Cx} {W : WX} {x : Str} {p pos rpos : Pos} {e : Expr} {se : SE} {k lv : Nat}
theorem x_raise (C : CalE X.prog c.G X.mg x k) (hc : X.calm = true) (tk : L2.Takes X W) (hK : X.K = c.G.K) (hr : Room (lv + 1) X.A) (he : PE X e (vt c se)) (hg : Gl X x := by rfl)
    (hdb : (x == ("__debug__" : Str)) = false := by decide) (hst : starEach [e] X.env = (false, eval e X.env) :: starEach [] X.env := by rfl) (hpl : (backTo pos (starEach [] X.env)).any (·.1) = false := by rfl) : PS X (.Raise (some (.Call (.Name x p) [e] [] pos)) none rpos) (vx c W (xRaise k se)) := by
  obtain ⟨f, fd, h1, h2, h3, h4, h5, h6, h7⟩ := C.ex
  rw [← hK] at h1 h2 h5
  refine ps_of (L2.ps_raise hc tk (pmk_sup h1 h5 h2 hr hg h3 h4 he hdb hst hpl)) fun σ H E ⟨F, ρ, I, r, e, q⟩ => ?_
  unfold xRaise at e
  split at e
  · rename_i d ρ1 e1
    cases e
    refine ⟨F, ρ, I, d, ρ1, e1, fun v H1 F1 x1 I1 r1 => ⟨v, rfl, fun dx hd => ?_⟩⟩
    have g := Grow.new (o := .xd [("value", v)]) I1.fh hd
    exact q σ _ _ dx v (x1.trans g.f) (I1.grow g) upd_same (r1.ext g.f)
  · cases e
end
end VS

set_option Elab.async false
set_option linter.all false
set_option maxRecDepth 100000
set_option maxHeartbeats 4000000
namespace VS
open PySem PySem.Spec PyProof.Rows L2
inductive Rm where
  | ret (d : D) (o : List D) | xc (k : Nat) (d : D)
abbrev MirX := List Sl → Option Rm
def mirX (n : Nat) (s : SX) : MirX := fun sl => match s (sl ++ List.replicate (n - sl.length) .no) with
  | some (.go .nx ρ) => match outOf sl ρ with
    | some o => some (.ret .non o)
    | none => none
  | some (.go (.rt d) ρ) => match outOf sl ρ with
    | some o => some (.ret d o)
    | none => none
  | some (.xc k d _) => some (.xc k d)
  | _ => none
theorem mirX_inv {n : Nat} {s : SX} {sl : List Sl} {r : Rm} (h : mirX n s sl = some r) : ∃ z, s (sl ++ List.replicate (n - sl.length) .no) = some z ∧
    ((∃ fl ρ d o, z = .go fl ρ ∧ r = .ret d o ∧ outOf sl ρ = some o ∧ (fl = .rt d ∨ (fl = .nx ∧ d = .non))) ∨ ∃ k d ρ, z = .xc k d ρ ∧ r = .xc k d) := by
  unfold mirX at h
  split at h
  · split at h
    · cases h; exact ⟨_, by assumption, .inl ⟨_, _, _, _, rfl, rfl, by assumption, .inr ⟨rfl, rfl⟩⟩⟩
    · cases h
  · split at h
    · cases h; exact ⟨_, by assumption, .inl ⟨_, _, _, _, rfl, rfl, by assumption, .inl rfl⟩⟩
    · cases h
  · cases h; exact ⟨_, by assumption, .inr ⟨_, _, _, rfl, rfl⟩⟩
  · cases h
def rmEnd (G : Gx) (B : List Addr) (F H : Hp) (sl : List Sl) (Q : VK) (E : XK) : Rm → Prop
  | .ret d o => ∀ v H' F', Keep G.T B F H F' H' → Out G F' H' B sl o → Rep G F' v d → Q v H'
  | .xc k d => ∀ H' F' dx v, Keep G.T B F H F' H' → F' dx = some (.xd [("value", v)]) → Rep G F' v d → E (.ref (G.cls k)) (some dx) H'
def spX (G : Gx) (n : Nat) (m : MirX) : Sp := fun vs H Q E => ∃ F B sl, Ext F H ∧ TbOk G.T F H ∧ ArgOk G F H B vs sl ∧ sl.length = n ∧ ∃ r, m sl = some r ∧ rmEnd G B F H sl Q E r
theorem fn_okX {P : Program} {w : World} {G : Gx} {mg : Str → Option Value} {base : Heap} {x qual : Str} {st : Stmt} {f : Addr} {fd : FuncData} {N ps : List Str} {k : Nat} {s : SX} (F : Fun G.K x qual st f fd) (S : FnScope N ps (defScope st))
    (hb : ∀ (c : Ctx) (cdv : Value) (A : Around) (outer : List Env) (sh : Shared) (H : Hp) (E : XK) (W : WX), c.G = G → Room k (A.deeper (envOfC qual (defScope st) sh.heap.objs.size f cdv)) → L2.Takes (cxOf (L2.CX P w) P w G.K mg base N qual (defScope st) f cdv A outer sh H E) W →
      PSs (cxOf (L2.CX P w) P w G.K mg base N qual (defScope st) f cdv A outer sh H E) (defBody st) (vx c W s)) :
    FnOk P w G.K mg base (L2.CX P w) (k + 1) f fd ps (spX G ps.length (mirX N.length s)) := by
  refine F.okX S (fun us H Q E h => ?_) (fun cdv A outer sh H us Q E hr h => ?_)
  · obtain ⟨F0, B, sl, _, _, a, hn, _⟩ := h
    rw [a.length, hn]
  · obtain ⟨F0, B, sl, e, tb, a, hn, r, hm, q⟩ := h
    refine ⟨vx ⟨G, F0, H, B⟩ (fun cls d _ H => E cls d H) s, hb _ cdv A outer sh H E _ rfl hr (L2.takes_of rfl rfl rfl rfl), ?_⟩
    obtain ⟨z, h1, h2⟩ := mirX_inv hm
    have hl := a.length
    refine ⟨F0, _, (by have := ok_start e tb a (N.length - sl.length); unfold L2.start; rw [hl]; exact this), z, h1, ?_⟩
    rcases h2 with ⟨fl, ρ, d, o, rfl, rfl, ho, h3⟩ | ⟨k', d, ρ, rfl, rfl⟩
    · have fin : ∀ σ H' F', Ok ⟨G, F0, H, B⟩ F' H' σ ρ → Keep G.T B F0 H F' H' ∧ Out G F' H' B sl o := fun σ H' F' I => ok_end e a I ho
      rcases h3 with rfl | ⟨rfl, rfl⟩
      · exact fun v σ H' F' x I r => q v H' F' (fin σ H' F' I).1 (fin σ H' F' I).2 r
      · exact fun σ H' F' x I => q .non H' F' (fin σ H' F' I).1 (fin σ H' F' I).2 .non
    · exact fun σ' H' F' dx v x I g r => q H' F' dx v ⟨I.f0, I.fh, I.fr, I.al, I.n0, fun _ => I.tb⟩ g r
structure CalR (P : Program) (w : World) (G : Gx) (mg : Str → Option Value) (base : Heap) (x : Str) (k n : Nat) (m : MirX) : Prop where
  ex : ∃ (f : Addr) (fd : FuncData) (ps : List Str), mg x = some (.ref f) ∧ PySem.W.keepIn G.K (.ref f) = true ∧ Binds G.K fd ps [] ∧ FnOk P w G.K mg base (L2.CX P w) k f fd ps (spX G n m)
def sCallX (n : Nat) (m : MirX) (a : SA) : EX := fun ρ => match a ρ with
  | some (xs, ρ1) => if xs.length = n then match m (xs.map .val) with
    | some (.ret d _) => some (.v d ρ1)
    | some (.xc k d) => some (.xc k d ρ1)
    | none => none
    else none
  | none => none
section
variable {c : Ctx} {X : Cx} {W : WX} {x : Str} {p pos : Pos} {e : Expr} {es : List Expr} {k n : Nat} {m : MirX} {f : Addr} {fd : FuncData} {ps : List Str} {sp : Sp} {t : TA}
theorem run_fnX {pins : List (Addr × Obj)} {σ : L2.St} {H : Hp} {s : Shared} {Q : VK} {us : List Value} {vs : List V} (F : FnOk X.prog X.w X.K X.mg X.base (L2.CX X.prog X.w) k f fd ps sp) (hr : Room k X.A) (hb : Binds X.K fd ps []) (tk : L2.Takes X W)
    (I : L2.Inv X pins σ H s) (r : L2.Vals vs us) (h : sp vs H Q fun cls d H' => W cls d σ H') : wpAny (model X.prog X.w) X.A (call (.ref f) us) (EP X pins σ Q) X.xe s := by
  have hl : us.length = ps.length := by rw [← r.length]; exact F.len _ _ _ _ h
  have b := hb s us I.kIn (by rw [List.append_nil]; exact hl)
  rw [List.append_nil] at b
  refine wpAny_call (codeAny_mono (F.run X.A X.stack s H ⟨us, []⟩ us vs Q _ hr I.env0 b r h) fun r s' hq => ?_)
  match r, hq with
  | .error e, hq => exact tk e s' (L2.XE.of_call I (fun _ _ _ z => z) hq)
  | .ok (.ret u), hq => exact I.after hq
  | .ok .next, hq => exact False.elim hq
  | .ok .brk, hq => exact False.elim hq
  | .ok .cont, hq => exact False.elim hq
def tCallX (sp : Sp) (W : WX) (t : TA) : TE := fun σ H Q => t σ H fun vs H1 => sp vs H1 Q fun cls d H' => W cls d σ H'
theorem pe_callX (F : FnOk X.prog X.w X.K X.mg X.base (L2.CX X.prog X.w) k f fd ps sp) (hr : Room k X.A) (hg : Gl X x) (hm : X.mg x = some (.ref f)) (hk : PySem.W.keepIn X.K (.ref f) = true) (hb : Binds X.K fd ps []) (tk : L2.Takes X W)
    (ha : PA X (e :: es) t) (hdb : (x == ("__debug__" : Str)) = false := by decide) (he : starEach (e :: es) X.env = (false, eval e X.env) :: starEach es X.env := by rfl) (hpl : (backTo pos (starEach es X.env)).any (·.1) = false := by rfl) :
    PE X (.Call (.Name x p) (e :: es) [] pos) (tCallX sp W t) :=
  ⟨fun pins s σ H Q I h => wpAny_Call_Name_kw (ld_glob I hg hm (PySem.W.callWith_K (h₀ := X.base) I.ok.mod.kin hk (thn (ha.run pos pins s σ H _ I h) fun us s1 ⟨vs, H1, I1, r, q⟩ => ⟨I1.kIn, run_fnX F hr hb tk I1 r q⟩) he hpl) hdb)⟩
theorem x_done {F H : Hp} {σ : L2.St} {ρ : Rho} {sl : List Sl} {Q : VK} {r : Rm} (I : Ok c F H σ ρ) (h : rEnd c W Q F σ (match r with | .ret d _ => .v d ρ | .xc k d => .xc k d ρ)) : rmEnd c.G [] F H sl Q (fun cls d H' => W cls d σ H') r := by
  cases r with
  | ret d o => exact fun v H2 F2 k2 _ r2 => h v H2 F2 k2.f (keep_lift I k2) r2
  | xc k d => exact fun H2 F2 dx v k2 g r2 => h H2 F2 dx v k2.f (keep_lift I k2) g r2
theorem callX_w {sa : SA} (σ : L2.St) (H : Hp) (Q : VK) (h : vr c W (sCallX n m sa) σ H Q) : tCallX (spX c.G n m) W (va c sa) σ H Q := by
  obtain ⟨F, ρ, I, r, e, q⟩ := h
  unfold sCallX at e
  split at e
  · rename_i xs ρ1 e1
    split at e
    · rename_i hn
      refine ⟨F, ρ, I, xs, ρ1, e1, fun vs H1 F1 x1 I1 r1 => ⟨F1, [], _, I1.fh, I1.tb, ArgOk.vals r1, by rw [List.length_map]; exact hn, ?_⟩⟩
      split at e
      · rename_i d o e2
        cases e
        exact ⟨_, e2, x_done (r := .ret d o) I1 (q.ext x1)⟩
      · rename_i k d e2
        cases e
        exact ⟨_, e2, x_done (r := .xc k d) I1 (q.ext x1)⟩
      · cases e
    · cases e
  · cases e
theorem e_call {sa : SA} (C : CalR X.prog X.w c.G X.mg X.base x k n m) (hK : X.K = c.G.K) (hr : Room k X.A) (tk : L2.Takes X W) (ha : PA X (e :: es) (va c sa)) (hg : Gl X x := by rfl) (hdb : (x == ("__debug__" : Str)) = false := by decide)
    (he : starEach (e :: es) X.env = (false, eval e X.env) :: starEach es X.env := by rfl) (hpl : (backTo pos (starEach es X.env)).any (·.1) = false := by rfl) : PE X (.Call (.Name x p) (e :: es) [] pos) (vr c W (sCallX n m sa)) := by
  obtain ⟨f, fd, ps, hm, hk, hb, hF⟩ := C.ex
  rw [← hK] at hk hb hF
  exact pe_of (pe_callX hF hr hg hm hk hb tk ha hdb he hpl) callX_w
end
def xTry (i j : Nat) (ks : List Nat) (s : EX) : SS := fun ρ => match s ρ with
  | some (.v _ ρ1) => some (.nx, ρ1)
  | some (.xc k d ρ1) => if k ∈ ks then some (.nx, (ρ1.set j (.val (.exc k d))).set i .no) else none
  | none => none
theorem Ok.gone {c : Ctx} {F H : Hp} {σ : L2.St} {ρ : Rho} (I : Ok c F H σ ρ) (i : Nat) : Ok c F H (σ.set i none) (ρ.set i .no) where
  len := by rw [List.length_set, List.length_set]; exact I.len
  f0 := I.f0
  fh := I.fh
  fr := I.fr
  al := I.al
  n0 := I.n0
  sl := fun a s e => by
    by_cases z : i = a
    · subst z
      have hl : i < ρ.length := by
        have := (List.getElem?_eq_some_iff.mp e).1
        rwa [List.length_set] at this
      rw [List.getElem?_set_self hl] at e
      cases e
      exact ⟨none, List.getElem?_set_self (by rw [I.len]; exact hl), trivial⟩
    · rw [List.getElem?_set_ne z] at e
      obtain ⟨ov, h1, h2⟩ := I.sl a s e
      exact ⟨ov, by rw [List.getElem?_set_ne z]; exact h1, h2⟩
  ap := fun a b s t p q ha hb ms mt hp hq e => by
    have no : ∀ (a : Nat) s, (ρ.set i .no)[a]? = some s → s.mut = true → i ≠ a := fun a s k m z => by
      subst z
      have hl : i < ρ.length := by
        have := (List.getElem?_eq_some_iff.mp k).1
        rwa [List.length_set] at this
      rw [List.getElem?_set_self hl] at k
      cases k
      cases m
    have na := no a s ha ms
    have nb := no b t hb mt
    rw [List.getElem?_set_ne na] at ha hp
    rw [List.getElem?_set_ne nb] at hb hq
    exact I.ap a b s t p q ha hb ms mt hp hq e
  hb := I.hb
  tb := I.tb
def Catches (K : PySem.W.Frag) (G : Gx) (cv : Value) (ks : List Nat) : Prop := ∀ k ∈ ks, PySem.W.exmOne K (.ref (G.cls k)) cv = some true
section
variable {c : Ctx} {X : Cx} {i j : Nat} {x n : Str} {e : Expr} {keep : Stmt} {np epos pos pos' : Pos} {s : EX} {ks : List Nat} {cv : Value}
theorem v_try (hex : X.ex = []) (hs : X.stack = X.env :: X.outer) (hf : X.env.frame = some X.env.locals) (hN : X.N.Nodup) (hK : X.K = c.G.K) (hi : X.N[i]? = some n) (hln : X.env.kindOf n = some .local) (hc : Names X x cv) (ct : Catches c.G.K c.G cv ks) (hij : i ≠ j)
    (hb : ∀ (W : WX) (ps : List (Addr × Obj)) (xe : Value → Shared → Prop), L2.Takes (X.tr ps xe) W → PE (X.tr ps xe) e (vr c W s))
    (hk : ∀ (a : Addr) (oe : Obj) (ps : List (Addr × Obj)), PS (X.suite a ((a, oe) :: ps)) keep (tAsg (tVar i) (gName j)))
    (hsw : swapsWith e none epos.line X.env = pure false := by rfl) :
    PS X (.Try [.Expr e epos] [.ExceptHandler (some (.Name x np)) (some n) [keep] pos'] [] [] pos) (vs c (xTry i j ks s)) := by
  refine ps_of (ps_tryKeep (Wout := fun _ _ _ _ => False) (tb := fun W => vx c W (xDrop s)) hex hs hf hN hi hln hc L2.takes0 (fun W ps xe tk _ => x_one (x_drop (hb W ps xe tk) hsw)) hk) fun σ H E ⟨F, ρ, I, fl, ρ', ee, q⟩ => ?_
  unfold xTry at ee
  split at ee
  · rename_i d ρ1 e1
    cases ee
    refine ⟨F, ρ, I, .go .nx ρ', ?_, q⟩
    unfold xDrop
    rw [e1]
  · rename_i k d ρ1 e1
    split at ee
    · rename_i hk'
      cases ee
      refine ⟨F, ρ, I, .xc k d ρ1, ?_, ?_⟩
      · unfold xDrop
        rw [e1]
      · intro σ' H' F' dx v x1 I1 g r1
        refine ⟨true, by rw [hK]; exact ct k hk', (fun z => by cases z), fun _ => ⟨c.G.cls k, dx, rfl, rfl, fun a na => ?_⟩⟩
        have gr := Grow.new (o := exq a (c.G.cls k) dx) I1.fh na
        have ne : dx ≠ a := fun z => by
          have := I1.fh _ _ g
          rw [z, na] at this
          cases this
        have J := I1.grow gr
        have rx : Rep c.G (upd F' a (exq a (c.G.cls k) dx)) (.ref a) (.exc k d) := .exc upd_same (by rw [upd_ne ne]; exact g) (r1.ext gr.f)
        have J2 := ((J.put i (.adr a)).put j rx).gone i
        have el : ((ρ1.set i (.val (.adr a))).set j (.val (.exc k d))).set i .no = (ρ1.set j (.val (.exc k d))).set i .no := by
          rw [List.set_comm _ _ hij, List.set_set]
        rw [el] at J2
        exact q _ _ _ (x1.trans gr.f) J2
    · cases ee
  · cases ee
end
end VS

set_option Elab.async false
set_option linter.all false
set_option maxRecDepth 100000
set_option maxHeartbeats 4000000
namespace VS
open PySem PySem.Spec PyProof.Rows L2
section
variable {c : Ctx} {X : Cx} {W : WX} {x : Str} {p pos : Pos} {e : Expr} {es : List Expr} {k n t nf : Nat} {m : MirX} {f C : Addr} {fd : FuncData} {ps : List Str} {sp : Sp} {ta : TA}
end
def xLoop (t : Tg) (b : SX) : List D → SX
  | [], ρ => some (.go .nx ρ)
  | d :: r, ρ => match tgt t d ρ with
    | some ρ1 => match b ρ1 with
      | some (.go .nx ρ2) => xLoop t b r ρ2
      | some (.go .ct ρ2) => xLoop t b r ρ2
      | some (.go .bk ρ2) => some (.go .nx ρ2)
      | some (.go (.rt x) ρ2) => some (.go (.rt x) ρ2)
      | some (.go (.rm x) ρ2) => some (.go (.rm x) ρ2)
      | some (.xc k d ρ2) => some (.xc k d ρ2)
      | none => none
    | none => none
def xFor (it : SI) (t : Tg) (b : SX) : SX := fun ρ => match it ρ with
  | some (ds, ρ1) => xLoop t b ds ρ1
  | none => none
theorem x_for {c : Ctx} {X : Cx} {W : WX} {tg iter : Expr} {body : List Stmt} {it : SI} {t : Tg} {b : SX} {pos : Pos} (hp : PassesOwn (model X.prog X.w) X.A X.env X.xe) (hc : X.calm = true) (hi : PI X tg iter (vi c it)) (hg : PG X tg (gT X.K t)) (hb : PSs X body (vx c W b))
    (hs : ∀ x, foldedSetIterable iter X.env x = pure x := by intro _; rfl) : PS X (.For tg iter body [] pos) (vx c W (xFor it t b)) :=
  ps_of (ps_for hp hc hi hg hb hs) fun σ H E ⟨F, ρ, I, z, e, q⟩ => by
    unfold xFor at e
    split at e
    · rename_i ds ρ1 e1
      refine ⟨F, ρ, I, ds, ρ1, e1, fun J H1 F1 x1 I1 y => ?_⟩
      refine ⟨fun i m σ H => m = ds.length - i ∧ i ≤ ds.length ∧ ∃ F2 ρ2, Ok c F2 H σ ρ2 ∧ Ext F1 F2 ∧ xLoop t b (ds.drop i) ρ2 = some z, ⟨ds.length, by simp, Nat.zero_le _, F1, ρ1, I1, Ext.rfl', e⟩, ?_⟩
      rintro i m σ2 H2 ⟨rfl, hi, F2, ρ2, I2, x2, e2⟩
      obtain ⟨y1, y2⟩ := y F2 H2 x2 I2.fh
      by_cases hlt : i < ds.length
      · rw [List.drop_eq_getElem_cons hlt] at e2
        unfold xLoop at e2
        obtain ⟨g1, g2⟩ := y1 i ds[i] (by simp [hlt])
        split at e2
        · rename_i ρ3 e3
          refine .inr ⟨g1, fun σ' H' => i + 1 ≤ ds.length ∧ ∃ F2 ρ2, Ok c F2 H' σ' ρ2 ∧ Ext F1 F2 ∧ xLoop t b (ds.drop (i + 1)) ρ2 = some z, fun σ' H' ⟨h1, h2⟩ => ⟨ds.length - (i + 1), by omega, rfl, h1, h2⟩, fun x H' yy => ?_⟩
          obtain ⟨F3, g3, r3⟩ := g2 x H' yy
          refine tgt_w (I2.grow g3) r3 e3 fun σ4 I4 _ => ?_
          have x3 : Ext F1 F3 := x2.trans g3.f
          have qq : xEnd c W E F3 z := q.ext (x1.trans x3)
          split at e2
          · rename_i ρ5 e5
            exact ⟨F3, ρ3, I4, .go .nx ρ5, e5, fun σ6 H6 F6 x6 I6 => ⟨hlt, F6, ρ5, I6, x3.trans x6, e2⟩⟩
          · rename_i ρ5 e5
            exact ⟨F3, ρ3, I4, .go .ct ρ5, e5, fun σ6 H6 F6 x6 I6 => ⟨hlt, F6, ρ5, I6, x3.trans x6, e2⟩⟩
          · rename_i ρ5 e5
            cases e2
            exact ⟨F3, ρ3, I4, .go .bk ρ5, e5, qq⟩
          · rename_i d5 ρ5 e5
            cases e2
            exact ⟨F3, ρ3, I4, .go (.rt d5) ρ5, e5, qq⟩
          · rename_i d5 ρ5 e5
            cases e2
            exact ⟨F3, ρ3, I4, .go (.rm d5) ρ5, e5, qq⟩
          · rename_i k5 d5 ρ5 e5
            cases e2
            exact ⟨F3, ρ3, I4, .xc k5 d5 ρ5, e5, qq⟩
          · cases e2
        · cases e2
      · have hi' : i = ds.length := by omega
        subst hi'
        rw [List.drop_length] at e2
        unfold xLoop at e2
        cases e2
        exact .inl ⟨y2, q σ2 H2 F2 (x1.trans x2) I2⟩
    · cases e
end VS

set_option Elab.async false
set_option linter.all false
set_option maxRecDepth 100000
set_option maxHeartbeats 4000000
namespace VS
open PySem PySem.Spec PyProof.Rows L2
def CatchX (K : PySem.W.Frag) (G : Gx) (mg : Str → Option Value) (x : Str) (ks : List Nat) : Prop := ∃ C : Addr, mg x = some (.ref C) ∧ Catches K G (.ref C) ks
theorem ct_nil {K : PySem.W.Frag} {G : Gx} {cv : Value} : Catches K G cv [] := fun k h => by cases h
theorem ct_cons {K : PySem.W.Frag} {G : Gx} {C : Addr} {k : Nat} {ks : List Nat} (h1 : PySem.W.subIn K (.ref C) (.type "BaseException") = some true) (h2 : PySem.W.hasDictIn K C = true) (h3 : PySem.W.typeIn K (.ref C) = some (.type "type")) (h4 : PySem.W.subIn K (.ref (G.cls k)) (.ref C) = some true) (r : Catches K G (.ref C) ks) : Catches K G (.ref C) (k :: ks) := fun k' h => by
  rcases List.mem_cons.mp h with e | h
  · subst e; exact PySem.W.exm_ref h1 h2 h3 h4
  · exact r k' h
section
variable {c : Ctx} {X : Cx} {i j : Nat} {x n : Str} {e : Expr} {keep : Stmt} {np epos pos pos' : Pos} {s : EX} {ks : List Nat}
theorem v_tryE (T : CatchX c.G.K c.G X.mg x ks) (hN : X.N.Nodup) (hK : X.K = c.G.K) (hij : i ≠ j)
    (hb : ∀ (W : WX) (ps : List (Addr × Obj)) (xe : Value → Shared → Prop), L2.Takes (X.tr ps xe) W → PE (X.tr ps xe) e (vr c W s))
    (hk : ∀ (a : Addr) (oe : Obj) (ps : List (Addr × Obj)), PS (X.suite a ((a, oe) :: ps)) keep (tAsg (tVar i) (gName j)))
    (hi : X.N[i]? = some n := by rfl) (hln : X.env.kindOf n = some .local := by rfl) (hg : Gl X x := by rfl) (hdb : (x == ("__debug__" : Str)) = false := by decide)
    (hex : X.ex = [] := by rfl) (hs : X.stack = X.env :: X.outer := by rfl) (hf : X.env.frame = some X.env.locals := by rfl)
    (hsw : swapsWith e none epos.line X.env = pure false := by rfl) :
    PS X (.Try [.Expr e epos] [.ExceptHandler (some (.Name x np)) (some n) [keep] pos'] [] [] pos) (vs c (xTry i j ks s)) := by
  obtain ⟨C, h1, h2⟩ := T
  exact v_try hex hs hf hN hK hi hln ⟨hg, hdb, .inl h1⟩ h2 hij hb hk hsw
end
end VS

set_option Elab.async false
set_option linter.all false
set_option maxRecDepth 100000
set_option maxHeartbeats 4000000
namespace VS
open PySem PySem.Spec PyProof.Rows L2
def unD : D → D
  | .bth _ d => d
  | d => d
def sU (s : SE) : SE := fun ρ => match s ρ with
  | some (d, ρ') => some (unD d, ρ')
  | none => none
theorem Rep.un {G : Gx} {F : Hp} {v : V} {d : D} (r : Rep G F v d) : Rep G F v (unD d) := by
  cases r with
  | bth r => exact r
  | non => exact .non
  | bl b => exact .bl b
  | int i => exact .int i
  | str x => exact .str x
  | adr a => exact .adr a
  | lst h k => exact .lst h k
  | scr h k => exact .scr h k
  | tup h k => exact .tup h k
  | ins h n k => exact .ins h n k
  | dct h k => exact .dct h k
  | exc h h2 k => exact .exc h h2 k
def anyV : V → D
  | .non => .non
  | .bl b => .bl b
  | .int i => .int i
  | .str x => .str x
  | .ref a => .adr a
  | _ => .non
theorem Rep.any {G : Gx} {F F' : Hp} {v : V} {d : D} (r : Rep G F v d) : Rep G F' v (anyV v) := by
  cases r with
  | non => exact .non
  | bl b => exact .bl b
  | int i => exact .int i
  | str x => exact .str x
  | _ => exact .adr _
theorem Reps.any {G : Gx} {F F' : Hp} : ∀ {vs : List V} {ds : List D}, Reps G F vs ds → Reps G F' vs (vs.map anyV)
  | _, _, .nil => .nil
  | _, _, .cons r k => .cons r.any (Reps.any k)
section
variable {c : Ctx} {X : Cx}
theorem ve_un {e : Expr} {s : SE} (h : PE X e (vt c s)) : PE X e (vt c (sU s)) := pe_of h fun σ H Q ⟨F, ρ, I, d, ρ', e, q⟩ => by
  unfold sU at e
  split at e
  · rename_i d0 ρ1 e1
    cases e
    exact ⟨F, ρ, I, d0, ρ', e1, fun v H1 F1 x1 I1 r1 => q v H1 F1 x1 I1 r1.un⟩
  · cases e
def tyOfD : D → Option String
  | .non => some "NoneType"
  | .bl _ => some "bool"
  | .int _ => some "int"
  | .str _ => some "str"
  | .lst _ => some "list"
  | .tup _ => some "tuple"
  | .dct false _ _ => some "dict"
  | _ => none
def NoBi (K : PySem.W.Frag) (C : Addr) : Prop := ∀ t ∈ (["NoneType", "bool", "int", "str", "list", "tuple", "dict"] : List String), PySem.W.kitOne K (.type t) (.ref C) = some false
theorem noBi_of {K : PySem.W.Frag} {C : Addr} (h1 : PySem.W.kitOne K (.type "NoneType") (.ref C) = some false) (h2 : PySem.W.kitOne K (.type "bool") (.ref C) = some false) (h3 : PySem.W.kitOne K (.type "int") (.ref C) = some false) (h4 : PySem.W.kitOne K (.type "str") (.ref C) = some false)
    (h5 : PySem.W.kitOne K (.type "list") (.ref C) = some false) (h6 : PySem.W.kitOne K (.type "tuple") (.ref C) = some false) (h7 : PySem.W.kitOne K (.type "dict") (.ref C) = some false) : NoBi K C := fun t h => by
  simp only [List.mem_cons, List.not_mem_nil, or_false] at h
  rcases h with rfl | rfl | rfl | rfl | rfl | rfl | rfl <;> assumption
def gIsCX (k : Nat) (d : D) : Option D := match d with
  | .ins k' _ => if k' = k then some (.bl true) else none
  | d => match tyOfD d with
    | some _ => some (.bl false)
    | none => none
theorem ty_of {F H : Hp} {v : V} {d : D} {t : String} (e : Ext F H) (r : Rep c.G F v d) (h : tyOfD d = some t) : TyX X.K H v (.type t) ∧ t ∈ (["NoneType", "bool", "int", "str", "list", "tuple", "dict"] : List String) := by
  cases r with
  | non => cases h; exact ⟨.base .non, by simp⟩
  | bl b => cases h; exact ⟨.base (.bl _), by simp⟩
  | int i => cases h; exact ⟨.base (.int _), by simp⟩
  | str x => cases h; exact ⟨.base (.str _), by simp⟩
  | lst q _ => cases h; exact ⟨.base (.lst (e _ _ q)), by simp⟩
  | tup q _ => cases h; exact ⟨.base (.tup (e _ _ q)), by simp⟩
  | @dct a b od ks vs ds q _ =>
    cases b with
    | true => cases h
    | false =>
      cases h
      obtain ⟨kvs, q1, _⟩ := dct_fz q
      exact ⟨.fDict (e _ _ q1), by simp⟩
  | _ => cases h
theorem ve_isCX {e : Expr} {x : Str} {s : SE} {p p2 pos : Pos} (k : Nat) (hm : X.mg "isinstance" = none) (he : PE X e (vt c s)) (hm2 : X.mg x = some (.ref (c.G.cls k))) (C : ClsOk X.K (c.G.cls k)) (NB : NoBi X.K (c.G.cls k)) (hg : Gl X "isinstance" := by rfl) (hg2 : Gl X x := by rfl)
    (d2 : (x == ("__debug__" : Str)) = false := by decide)
    (h1 : starEach [e, .Name x p2] X.env = (false, eval e X.env) :: starEach [.Name x p2] X.env := by rfl) (h2 : starEach [.Name x p2] X.env = (false, eval (.Name x p2) X.env) :: starEach [] X.env := by rfl)
    (hpl : (backTo pos (starEach [.Name x p2] X.env)).any (·.1) = false := by rfl) :
    PE X (.Call (.Name "isinstance" p) [e, .Name x p2] [] pos) (vt c (s1 (gIsCX k) s)) := by
  refine pe_of (pe_callB call_isi hg hm (by decide +kernel) (pa_cons he (pa_cons (pe_glob (v := .ref (c.G.cls k)) hg2 hm2 rfl d2) pa_nil h2) h1) (by decide) (by decide) h1 hpl) fun σ H Q ⟨F, ρ, I, d, ρ', e, q⟩ => ?_
  obtain ⟨y, e1, e2⟩ := s1_inv e
  refine ⟨F, ρ, I, y, ρ', e1, fun v H1 F1 x1 I1 r1 => ?_⟩
  unfold gIsCX at e2
  split at e2
  · split at e2
    · rename_i hk
      subst hk
      cases e2
      cases r1 with
      | ins g1 _ _ =>
        exact ⟨_, _, _, _, true, rfl, .own _, .base (.ins (I1.fh _ _ g1) C.cl C.ha C.hn C.tk C.mr), if_pos (beq_self_eq_true _), q _ _ _ x1 I1 (.bl _)⟩
    · cases e2
  · split at e2
    · rename_i t ht
      cases e2
      obtain ⟨g1, g2⟩ := ty_of (X := X) I1.fh r1 ht
      exact ⟨_, _, _, _, false, rfl, .own _, g1, NB _ g2, q _ _ _ x1 I1 (.bl _)⟩
    · cases e2
end
end VS

set_option Elab.async false
set_option linter.all false
set_option maxRecDepth 100000
set_option maxHeartbeats 4000000
namespace VS
open PySem PySem.Spec PyProof.Rows L2
def tAppS (te : TE) (x : Str) : TS := fun E σ H => te σ H fun v H1 => ∃ p us, v = .ref p ∧ H1 p = some (.lst us) ∧ us.length < sizeLine ∧ E.nx σ (upd H1 p (.lst (us ++ [.str x])))
theorem ps_appS {X : Cx} {o : Expr} {te : TE} {j : Nat} {y : Str} {cp apos cpos pos : Pos} (h : PE X o te)
    (hbase : attributeBase o "append" X.env (eval o X.env) = eval o X.env := by rfl)
    (hfew : ((backTo cpos (starEach [Expr.Constant (.str y) j cp] X.env)).all (fun x => !x.1) && (backToKw cpos (keywordEach [] X.env)).all (fun x => x.1.isSome)
      && decide ([Expr.Constant (.str y) j cp].length + ([] : List Keyword).length + (if ([] : List Keyword).isEmpty then 0 else 1) < 30)) = true := by rfl)
    (hline : (apos.endLine == cpos.line) = true := by rfl) (hst : starEach [Expr.Constant (.str y) j cp] X.env = (false, eval (.Constant (.str y) j cp) X.env) :: starEach [] X.env := by rfl) (hpl : (backTo cpos (starEach [] X.env)).any (·.1) = false := by rfl)
    (hs : swapsWith (.Call (.Attribute o "append" apos) [.Constant (.str y) j cp] [] cpos) none pos.line X.env = pure false := by rfl) (mono : ∀ σ H Q Q', te σ H Q → (∀ v H1, Q v H1 → Q' v H1) → te σ H Q') :
    PS X (.Expr (.Call (.Attribute o "append" apos) [.Constant (.str y) j cp] [] cpos) pos) (tAppS te y) :=
  ps_of (ps_expr (pe_bm PySem.F.plainAttrs_list PySem.F.slot_list_append PySem.F.type_list_append (id := "list.append") (fun pins s σ H x xs v us Q I rx rv q => mt_append pins s σ H x xs v us Q I rx rv q) h (pa_cons pe_str pa_nil hst) hbase hfew hline hst hpl) hs) fun σ H E q =>
    mono σ H _ _ q fun v H1 ⟨p, us, h1, h2, h3, z⟩ => by
      subst h1
      exact ⟨.inl ⟨rfl, _, .of h2⟩, _, us, _, rfl, rfl, h2, h3, z⟩
theorem vtQ_mono {G : Gx} {m : SE} : ∀ (σ : L2.St) (H : Hp) (Q Q' : VK), vtQ G m σ H Q → (∀ v H1, Q v H1 → Q' v H1) → vtQ G m σ H Q' := fun σ H Q Q' ⟨c, hc, F, ρ, I, d, ρ', e, q⟩ w => ⟨c, hc, F, ρ, I, d, ρ', e, fun v H' F' x I' r => w _ _ (q v H' F' x I' r)⟩
end VS

set_option Elab.async false
set_option linter.all false
set_option maxRecDepth 100000
set_option maxHeartbeats 4000000
namespace VS
open PySem PySem.Spec PyProof.Rows L2
def kd7 : D → Nat
  | .non => 0 | .bl _ => 1 | .int _ => 2 | .str _ => 3 | .lst _ => 4 | .tup _ => 5 | .ins _ _ => 6 | _ => 7
def inc : D → D → Bool
  | .int i, .int j => i != j
  | .str x, .str y => x != y
  | .bl a, .bl b => a != b
  | d, e => kd7 d != 7 && (kd7 e != 7 && kd7 d != kd7 e)
theorem inc_ok {G : Gx} {F : Hp} {v : V} {d e : D} (r : Rep G F v d) (q : Rep G F v e) : inc d e = false := by
  cases r with
  | non => cases q; rfl
  | bl b => cases q; simp [inc]
  | int i => cases q; simp [inc]
  | str x => cases q; simp [inc]
  | lst h k =>
    cases q with
    | lst h2 k2 => rfl
    | tup h2 k2 => rw [h] at h2; cases h2
    | ins h2 n2 k2 => rw [h] at h2; cases h2
    | _ => rfl
  | tup h k =>
    cases q with
    | tup h2 k2 => rfl
    | lst h2 k2 => rw [h] at h2; cases h2
    | ins h2 n2 k2 => rw [h] at h2; cases h2
    | _ => rfl
  | ins h n k =>
    cases q with
    | ins h2 n2 k2 => rfl
    | lst h2 k2 => rw [h] at h2; cases h2
    | tup h2 k2 => rw [h] at h2; cases h2
    | _ => rfl
  | _ => cases q <;> rfl
def apt : List D → List D → Bool
  | [], [] => false
  | d :: ds, e :: es => inc d e || apt ds es
  | _, _ => true
theorem apt_ok {G : Gx} {F : Hp} : ∀ {us : List V} {ds es : List D}, Reps G F us ds → Reps G F us es → apt ds es = false
  | _, _, _, .nil, .nil => rfl
  | _, _, _, .cons r k, .cons q l => by
    unfold apt
    rw [inc_ok r q, apt_ok k l]
    rfl
theorem apt_no {G : Gx} {ds es : List D} (h : apt ds es = true) : ∀ (F : Hp) (us : List V), Reps G F us ds → Reps G F us es → False := fun F us r q => by
  rw [apt_ok r q] at h
  cases h
def rsA (A : List Addr) (F : Hp) : Hp := fun b => match F b with
  | some (.lst us) => if b ∈ A then some (.lst us) else none
  | some (.tbl _) => none
  | o => o
theorem rsA_ext {A : List Addr} {F : Hp} : Ext (rsA A F) F := fun b o e => by
  unfold rsA at e
  split at e
  · rename_i us h
    split at e
    · rw [h]; exact e
    · cases e
  · cases e
  · exact e
theorem rsA_lst {A : List Addr} {F : Hp} {b : Addr} {us : List V} (e : rsA A F b = some (.lst us)) : b ∈ A := by
  unfold rsA at e
  split at e
  · split at e
    · assumption
    · cases e
  · cases e
  · rename_i n _
    exact absurd e (n us)
theorem rsA_tbl {A : List Addr} {F : Hp} {b : Addr} {o : HO} (e : rsA A F b = some o) : ∀ ps, o ≠ .tbl ps := fun ps z => by
  subst z
  unfold rsA at e
  split at e
  · split at e
    · cases e
    · cases e
  · cases e
  · rename_i _ n
    exact absurd e (n ps)
theorem rsA_of {A : List Addr} {F : Hp} {b : Addr} {o : HO} (h : F b = some o) (n : ∀ us, o ≠ .lst us) (n2 : ∀ ps, o ≠ .tbl ps) : rsA A F b = some o := by
  unfold rsA
  rw [h]
  split
  · rename_i us z
    cases z
    exact absurd rfl (n us)
  · rename_i ps z
    cases z
    exact absurd rfl (n2 ps)
  · rfl
theorem rsA_in {A : List Addr} {F : Hp} {b : Addr} {us : List V} (h : F b = some (.lst us)) (hb : b ∈ A) : rsA A F b = some (.lst us) := by
  unfold rsA
  rw [h]
  exact if_pos hb
theorem rsA_mono {A B : List Addr} {F : Hp} (s : ∀ a ∈ A, a ∈ B) : Ext (rsA A F) (rsA B F) := fun b o e => by
  have f := rsA_ext b o e
  by_cases z : ∃ us, o = .lst us
  · obtain ⟨us, rfl⟩ := z
    exact rsA_in f (s _ (rsA_lst e))
  · exact rsA_of f (fun us y => z ⟨us, y⟩) (rsA_tbl e)
mutual
/-- the lists within -/
def lsts : D → List (List D)
  | .lst ds => ds :: lstss ds
  | .tup ds => lstss ds
  | .ins _ ds => lstss ds
  | .exc _ d => lsts d
  | .bth _ d => lsts d
  | .dct _ _ ds => lstss ds
  | _ => []
def lstss : List D → List (List D)
  | [] => []
  | d :: ds => lsts d ++ lstss ds
end
mutual
/-- no script, no dict within -/
def plnD : D → Bool
  | .lst ds => plnDs ds
  | .tup ds => plnDs ds
  | .ins _ ds => plnDs ds
  | .exc _ d => plnD d
  | .bth _ d => plnD d
  | .scr _ => false
  | .dct b _ ds => !b && plnDs ds
  | _ => true
def plnDs : List D → Bool
  | [] => true
  | d :: ds => plnD d && plnDs ds
end
def Foot (G : Gx) (F : Hp) (A : List Addr) (L : List (List D)) : Prop := ∀ a ∈ A, ∃ us ds, F a = some (.lst us) ∧ Reps G (rsA A F) us ds ∧ ds ∈ L
theorem Foot.app {G : Gx} {F : Hp} {A B : List Addr} {L M : List (List D)} (h : Foot G F A L) (k : Foot G F B M) : Foot G F (A ++ B) (L ++ M) := fun a ha => by
  rcases List.mem_append.mp ha with z | z
  · obtain ⟨us, ds, q1, q2, q3⟩ := h a z
    exact ⟨us, ds, q1, q2.ext (rsA_mono fun a h => List.mem_append_left _ h), List.mem_append_left _ q3⟩
  · obtain ⟨us, ds, q1, q2, q3⟩ := k a z
    exact ⟨us, ds, q1, q2.ext (rsA_mono fun a h => List.mem_append_right _ h), List.mem_append_right _ q3⟩
mutual
theorem Rep.foot {G : Gx} {F : Hp} : ∀ {v : V} {d : D}, Rep G F v d → plnD d = true → ∃ A, Rep G (rsA A F) v d ∧ Foot G F A (lsts d)
  | _, _, .non, _ => ⟨[], .non, fun a h => by cases h⟩
  | _, _, .bl b, _ => ⟨[], .bl b, fun a h => by cases h⟩
  | _, _, .int i, _ => ⟨[], .int i, fun a h => by cases h⟩
  | _, _, .str x, _ => ⟨[], .str x, fun a h => by cases h⟩
  | _, _, .adr a, _ => ⟨[], .adr a, fun a h => by cases h⟩
  | _, _, .lst (a := a) (vs := vs) (ds := ds) h r, z => by
    obtain ⟨A, k, f⟩ := Reps.foot r z
    refine ⟨a :: A, .lst (rsA_in h List.mem_cons_self) (k.ext (rsA_mono fun x hx => List.mem_cons_of_mem _ hx)), fun x hx => ?_⟩
    rcases List.mem_cons.mp hx with e | hx
    · subst e
      exact ⟨vs, ds, h, k.ext (rsA_mono fun x hx => List.mem_cons_of_mem _ hx), List.mem_cons_self⟩
    · obtain ⟨us, es, q1, q2, q3⟩ := f x hx
      exact ⟨us, es, q1, q2.ext (rsA_mono fun x hx => List.mem_cons_of_mem _ hx), List.mem_cons_of_mem _ q3⟩
  | _, _, .tup h r, z => by
    obtain ⟨A, k, f⟩ := Reps.foot r z
    exact ⟨A, .tup (rsA_of h (fun us e => by cases e) fun us e => by cases e) k, f⟩
  | _, _, .ins h n r, z => by
    obtain ⟨A, k, f⟩ := Reps.foot r z
    exact ⟨A, .ins (rsA_of h (fun us e => by cases e) fun us e => by cases e) n k, f⟩
  | _, _, .exc h h2 r, z => by
    obtain ⟨A, k, f⟩ := Rep.foot r z
    exact ⟨A, .exc (rsA_of h (fun us e => by unfold exq at e; cases e) fun us e => by unfold exq at e; cases e) (rsA_of h2 (fun us e => by cases e) fun us e => by cases e) k, f⟩
  | _, _, .bth r, z => by
    obtain ⟨A, k, f⟩ := Rep.foot r z
    exact ⟨A, .bth k, f⟩
  | _, _, .scr _ _, z => by cases z
  | _, _, .dct (a := a) (b := b) (od := od) (ks := ks) (vs := vs) (ds := ds) h r, z => by
    simp only [plnD, Bool.and_eq_true] at z
    obtain ⟨A, k, f⟩ := Reps.foot r z.2
    refine ⟨A, ?_, f⟩
    have hb : b = false := by
      cases b
      · rfl
      · cases z.1
    subst hb
    obtain ⟨kvs, h1, h2, h3, h4⟩ := h
    exact Rep.dct (b := false) (od := od) ⟨kvs, rsA_of h1 (fun us e => by cases e) (fun us e => by cases e), h2, h3, h4⟩ k
theorem Reps.foot {G : Gx} {F : Hp} : ∀ {vs : List V} {ds : List D}, Reps G F vs ds → plnDs ds = true → ∃ A, Reps G (rsA A F) vs ds ∧ Foot G F A (lstss ds)
  | _, _, .nil, _ => ⟨[], .nil, fun a h => by cases h⟩
  | _, _, .cons r k, z => by
    simp only [plnDs, Bool.and_eq_true] at z
    obtain ⟨A, r1, f1⟩ := Rep.foot r z.1
    obtain ⟨B, k1, f2⟩ := Reps.foot k z.2
    exact ⟨A ++ B, .cons (r1.ext (rsA_mono fun a h => List.mem_append_left _ h)) (k1.ext (rsA_mono fun a h => List.mem_append_right _ h)), f1.app f2⟩
end
end VS

set_option Elab.async false
set_option linter.all false
set_option maxRecDepth 100000
set_option maxHeartbeats 4000000
namespace VS
open PySem PySem.Spec PyProof.Rows L2
def viF (c : Ctx) (s : SI) : TI := fun σ H R => ∃ F ρ, Ok c F H σ ρ ∧ ∃ ds ρ', s ρ = some (ds, ρ') ∧ ∀ J H' F', Ext F F' → Ok c F' H' σ ρ' → Yields c.G J (fun _ => none) ds → R J H'
theorem vif_range1 {c : Ctx} {X : Cx} {tg : Expr} {a : Expr} {sa : SA} {p pos : Pos} (hm : X.mg "range" = none) (ha : PA X [a] (va c sa)) (hg : Gl X "range" := by rfl) (hs : starEach [a] X.env = [(false, eval a X.env)] := by rfl) : PI X tg (.Call (.Name "range" p) [a] [] pos) (viF c (iR sa)) :=
  pi_of (pi_range1 hg hm ha hs) fun σ H R ⟨F, ρ, I, ds, ρ', e, q⟩ => by
    unfold iR at e
    split at e
    · rename_i j ρ1 e1
      split at e
      · rename_i hj
        cases e
        refine ⟨F, ρ, I, _, ρ', e1, fun vs H1 F1 x1 I1 r1 => ?_⟩
        obtain ⟨v, ev, r⟩ := reps1 r1
        cases r
        exact ⟨_, ev, hj.1, hj.2, q _ _ F1 x1 I1 (yields_rng 0 _)⟩
      · cases e
    · cases e
def tForQ (G : Gx) (it : SI) (t : Tg) (tb : TS) : TS := fun E σ H => ∃ (c : Ctx) (F : Hp) (ρ : Rho), c.G = G ∧ Ok c F H σ ρ ∧ ∃ ds ρ1, it ρ = some (ds, ρ1) ∧ ∀ F1 H1, Ext F F1 → Ok c F1 H1 σ ρ1 →
  ∃ P : Nat → L2.St → Hp → Prop, P 0 σ H1 ∧ ∀ i σ2 H2, P i σ2 H2 → i ≤ ds.length ∧ ∃ (c2 : Ctx) (F2 : Hp) (ρ2 : Rho), c2.G = G ∧ Ok c2 F2 H2 σ2 ρ2 ∧ (i = ds.length → E.nx σ2 H2) ∧
    ∀ d, ds[i]? = some d → ∃ ρ3, tgt t d ρ2 = some ρ3 ∧ ∀ F3 H3 σ3, Ext F2 F3 → Ok c2 F3 H3 σ3 ρ3 → tb { nx := P (i + 1), rt := E.rt, bk := E.nx, ct := P (i + 1) } σ3 H3
theorem ps_forQ {X : Cx} {G : Gx} {tg iter : Expr} {body : List Stmt} {it : SI} {t : Tg} {tb : TS} {pos : Pos} (hp : PassesOwn (model X.prog X.w) X.A X.env X.xe) (hc : X.calm = true) (hi : ∀ c : Ctx, c.G = G → PI X tg iter (viF c it)) (hg : PG X tg (gT X.K t)) (hb : PSs X body tb)
    (hs : ∀ x, foldedSetIterable iter X.env x = pure x := by intro _; rfl) : PS X (.For tg iter body [] pos) (tForQ G it t tb) := by
  refine ⟨fun pins s σ H E I0 ⟨c, F, ρ, hcG, I, ds, ρ1, e1, k⟩ => ?_⟩
  refine (L2.ps_for hp hc (hi c hcG) hg hb hs).run pins s σ H E I0 ?_
  refine ⟨F, ρ, I, ds, ρ1, e1, fun J H1 F1 x1 I1 y => ?_⟩
  obtain ⟨P, p0, ps⟩ := k F1 H1 x1 I1
  refine ⟨fun i m σ H => m = ds.length - i ∧ P i σ H, ⟨ds.length, by simp, p0⟩, ?_⟩
  rintro i m σ2 H2 ⟨rfl, pi⟩
  obtain ⟨hi, c2, F2, ρ2, hc2, I2, nx, turn⟩ := ps i σ2 H2 pi
  obtain ⟨y1, y2⟩ := y F2 H2 (fun _ _ z => by cases z) I2.fh
  by_cases hlt : i < ds.length
  · obtain ⟨g1, g2⟩ := y1 i ds[i] (by simp [hlt])
    refine .inr ⟨g1, P (i + 1), fun σ' H' q => ⟨ds.length - (i + 1), by omega, rfl, q⟩, fun x H' yy => ?_⟩
    obtain ⟨F3, g3, r3⟩ := g2 x H' yy
    obtain ⟨ρ3, e3, body⟩ := turn ds[i] (by simp [hlt])
    have r3' : Rep c2.G F3 x ds[i] := by rw [hc2, ← hcG]; exact r3
    exact tgt_w (I2.grow g3) r3' e3 fun σ4 I4 _ => body F3 H' σ4 g3.f I4
  · have hi' : i = ds.length := by omega
    subst hi'
    exact .inl ⟨y2, nx rfl⟩
end VS

set_option Elab.async false
set_option linter.all false
set_option maxRecDepth 100000
set_option maxHeartbeats 4000000
namespace VS
open PySem PySem.Spec PyProof.Rows L2
structure CalH (P : Program) (w : World) (G : Gx) (mg : Str → Option Value) (base : Heap) (x : Str) (k : Nat) (sp : Sp) : Prop where
  ex : ∃ (f : Addr) (fd : FuncData) (ps : List Str), mg x = some (.ref f) ∧ PySem.W.keepIn G.K (.ref f) = true ∧ Binds G.K fd ps [] ∧ FnG P w G.K mg base k f fd ps sp
def vaQ (G : Gx) (m : SA) : TA := fun σ H Q => ∃ c : Ctx, c.G = G ∧ va c m σ H Q
section
variable {X : Cx} {G : Gx} {x : Str} {k : Nat} {sp : Sp} {t : TA} {e : Expr} {es : List Expr} {p pos : Pos}
theorem pa_x {es : List Expr} {m : SA} (hh : ∀ c : Ctx, c.G = G → PA X es (va c m)) : PA X es (vaQ G m) := ⟨fun pos pins s σ H Q I ⟨c0, hc, q⟩ => (hh c0 hc).run pos pins s σ H Q I q⟩
theorem pe_callH (C : CalH X.prog X.w G X.mg X.base x k sp) (hK : X.K = G.K) (hgd : X.A.guards = some []) (hr : Room k X.A) (ha : PA X (e :: es) t) (hg : Gl X x := by rfl) (hdb : (x == ("__debug__" : Str)) = false := by decide)
    (he : starEach (e :: es) X.env = (false, eval e X.env) :: starEach es X.env := by rfl) (hpl : (backTo pos (starEach es X.env)).any (·.1) = false := by rfl) : PE X (.Call (.Name x p) (e :: es) [] pos) (tCall sp [] E0 t) := by
  obtain ⟨f, fd, ps, hm, hk, hb, hF⟩ := C.ex
  rw [← hK] at hk hb hF
  exact pe_callG hF hgd hr hg hm hk hb ha hdb he hpl
end
end VS

set_option Elab.async false
set_option linter.all false
set_option maxRecDepth 100000
set_option maxHeartbeats 4000000
namespace VS
open PySem PySem.Spec PyProof.Rows L2
def sLsM (i : Nat) : SE := fun ρ => match conM ρ i with
  | some xs => some (.lst xs, ρ)
  | none => none
theorem ve_listM {X : Cx} {c : Ctx} {a : Expr} {i : Nat} {p pos : Pos} (hm : X.mg "list" = none) (ha : PE X a (tVar i)) (hg : Gl X "list" := by rfl)
    (he : starEach [a] X.env = (false, eval a X.env) :: starEach [] X.env := by rfl) (hpl : (backTo pos (starEach [] X.env)).any (·.1) = false := by rfl) : PE X (.Call (.Name "list" p) [a] [] pos) (vt c (sLsM i)) :=
  pe_of (pe_callTy call_list_of hg hm bt_list (pa_cons ha pa_nil he) (by decide) (by decide) he hpl) fun σ H Q ⟨F, ρ, I, d, ρ', e, q⟩ => by
    unfold sLsM at e
    split at e
    · rename_i xs e0
      cases e
      obtain ⟨p, vs, h0, h2, h3, h4⟩ := I.own e0
      refine ⟨_, h0, ?_⟩
      have q' : Aft c.G F H (.lst xs) Q := fun v H' F' g r => q v H' F' g.f (I.grow g) r
      exact ⟨_, _, rfl, .inl (.of h2), fun p hp => q'.newL I.fh h4 p hp⟩
    · cases e
def sls : Sl → List (List D)
  | .val d => lsts d
  | .own xs => lstss xs
  | _ => []
def rls : Rho → List (List D)
  | [] => []
  | s :: r => sls s ++ rls r
def slP : Sl → Bool
  | .val d => plnD d
  | .own xs => plnDs xs
  | .no => true
  | _ => false
def SlF (G : Gx) (F Ff H : Hp) : Option V → Sl → Prop
  | _, .no => True
  | some v, .val d => Rep G F v d
  | some v, .own xs => ∃ p vs, v = .ref p ∧ Ff p = none ∧ H p = some (.lst vs) ∧ Reps G F vs xs
  | _, _ => False
theorem SlF.ext {G : Gx} {F F' Ff H : Hp} (e : Ext F F') : ∀ {ov : Option V} {s : Sl}, SlF G F Ff H ov s → SlF G F' Ff H ov s
  | none, .no, _ => trivial
  | some _, .no, _ => trivial
  | some _, .val _, h => Rep.ext e h
  | some _, .own _, ⟨p, vs, h1, h2, h3, h4⟩ => ⟨p, vs, h1, h2, h3, h4.ext e⟩
  | none, .val _, h => h
  | none, .own _, h => h
  | none, .bor _, h => h
  | some _, .bor _, h => h
  | none, .slf _ _, h => h
  | some _, .slf _ _, h => h
  | none, .dic _ _ _, h => h
  | some _, .dic _ _ _, h => h
  | none, .lam _, h => h
  | some _, .lam _, h => h
theorem foot_slot {c : Ctx} {F H : Hp} : ∀ {ov : Option V} {s : Sl}, SlOk c F H ov s → slP s = true → ∃ A, SlF c.G (rsA A F) F H ov s ∧ Foot c.G F A (sls s)
  | ov, .no, _, _ => ⟨[], by cases ov <;> trivial, fun a h => by cases h⟩
  | some v, .val d, h, z => Rep.foot h z
  | some v, .own xs, ⟨p, e, h0, hf, vs, hh, r⟩, z => by
    obtain ⟨A, k, f⟩ := Reps.foot r z
    exact ⟨A, ⟨p, vs, e, hf, hh, k⟩, f⟩
  | none, .val _, h, _ => h.elim
  | none, .own _, h, _ => h.elim
  | none, .bor _, h, _ => h.elim
  | some _, .bor _, _, z => by cases z
  | none, .slf _ _, h, _ => h.elim
  | some _, .slf _ _, _, z => by cases z
  | none, .dic _ _ _, h, _ => h.elim
  | some _, .dic _ _ _, _, z => by cases z
  | none, .lam _, h, _ => h.elim
  | some _, .lam _, _, z => by cases z
theorem foot_slots {c : Ctx} {F H : Hp} : ∀ (ρ : Rho) (σ : L2.St), (∀ (i : Nat) s, ρ[i]? = some s → ∃ ov, σ[i]? = some ov ∧ SlOk c F H ov s) → ρ.all slP = true →
    ∃ A, (∀ (i : Nat) s, ρ[i]? = some s → ∃ ov, σ[i]? = some ov ∧ SlF c.G (rsA A F) F H ov s) ∧ Foot c.G F A (rls ρ)
  | [], _, _, _ => ⟨[], fun i s h => by simp at h, fun a h => by cases h⟩
  | s :: r, [], h, _ => by
    obtain ⟨ov, h1, _⟩ := h 0 s rfl
    simp at h1
  | s :: r, o :: σ, h, z => by
    simp only [List.all_cons, Bool.and_eq_true] at z
    obtain ⟨ov, h1, h2⟩ := h 0 s rfl
    have h1 : some o = some ov := h1
    cases h1
    obtain ⟨A, k1, f1⟩ := foot_slot h2 z.1
    obtain ⟨B, k2, f2⟩ := foot_slots r σ (fun i s' e => h (i + 1) s' (by simpa using e)) z.2
    refine ⟨A ++ B, fun i s' e => ?_, f1.app f2⟩
    cases i with
    | zero =>
      have e : some s = some s' := e
      cases e
      exact ⟨o, rfl, k1.ext (rsA_mono fun a h => List.mem_append_left _ h)⟩
    | succ i =>
      obtain ⟨ov, g1, g2⟩ := k2 i s' (by simpa using e)
      exact ⟨ov, by simpa using g1, g2.ext (rsA_mono fun a h => List.mem_append_right _ h)⟩
theorem Ok.refoot {c : Ctx} {F H H' K0 : Hp} {σ : L2.St} {ρ : Rho} (ch : Addr → Prop) (I : Ok c F H σ ρ) (hs : ρ.all slP = true)
    (k1 : ∀ q o, K0 q = some o → (∀ ps, o ≠ .tbl ps) → H' q = some o) (k2 : ∀ q o, K0 q = some o → ∃ o', H' q = some o')
    (ow : ∀ (i : Nat) xs q, ρ[i]? = some (.own xs) → σ[i]? = some (some (.ref q)) → K0 q = none)
    (kp : ∀ q o, H q = some o → ¬ ch q → (∀ ps, o ≠ .tbl ps) → H' q = some o) (tb : LamX.Tabs c.G.T H')
    (hch : ∀ q, ch q → ∃ us ys, F q = some (.lst us) ∧ Reps c.G F us ys ∧ ∀ l ∈ rls ρ, apt l ys = true) :
    ∃ F0 Fm, Ext Fm F ∧ Ok ⟨c.G, F0, K0, []⟩ Fm H' σ ρ ∧ ∀ q us, F0 q = some (.lst us) → ∃ ds, ds ∈ rls ρ ∧ Reps c.G Fm us ds := by
  obtain ⟨A, k, ft⟩ := foot_slots ρ σ I.sl hs
  have nch : ∀ q o, rsA A F q = some o → ¬ ch q := fun q o e z => by
    obtain ⟨us, ys, f1, f2, f3⟩ := hch q z
    have e2 := rsA_ext q o e
    rw [f1] at e2
    cases e2
    obtain ⟨us', ds, g1, g2, g3⟩ := ft q (rsA_lst e)
    rw [f1] at g1
    cases g1
    exact apt_no (f3 ds g3) F us (g2.ext rsA_ext) f2
  refine ⟨fun q => match K0 q with | none => none | some _ => rsA A F q, rsA A F, rsA_ext, ⟨I.len, ?_, ?_, fun q o h _ n => k1 q o h n, k2, ?_, ?_, I.ap, (fun p hp => by cases hp), ⟨tb, fun p hp => ext_none rsA_ext (I.tb.n p hp)⟩⟩, ?_⟩
  · intro q o e
    dsimp only at e
    split at e
    · cases e
    · exact e
  · intro q o e
    exact kp q o (I.fh _ _ (rsA_ext q o e)) (nch q o e) (rsA_tbl e)
  · intro q o h n
    dsimp only at n h
    rw [h] at n
    exact n
  · intro i s e
    obtain ⟨ov, g1, g2⟩ := k i s e
    refine ⟨ov, g1, ?_⟩
    cases s with
    | no => cases ov <;> trivial
    | val d =>
      cases ov with
      | none => exact g2.elim
      | some v => exact g2
    | own xs =>
      cases ov with
      | none => exact g2.elim
      | some v =>
        obtain ⟨p, vs, e1, e2, e3, e4⟩ := g2
        subst e1
        refine ⟨p, rfl, ow i xs p e g1, ext_none rsA_ext e2, vs, kp p _ e3 (fun z => ?_) nt_lst, e4⟩
        obtain ⟨us, _, f1, _⟩ := hch p z
        rw [e2] at f1
        cases f1
    | bor xs => cases ov <;> exact g2.elim
    | slf a b => cases ov <;> exact g2.elim
    | dic a b d => cases ov <;> exact g2.elim
    | lam a => cases ov <;> exact g2.elim
  · intro q us e
    dsimp only at e
    split at e
    · cases e
    · obtain ⟨us', ds, g1, g2, g3⟩ := ft q (rsA_lst e)
      rw [rsA_ext q _ e] at g1
      cases g1
      exact ⟨ds, g3, g2⟩
end VS

set_option Elab.async false
set_option linter.all false
set_option maxRecDepth 100000
set_option maxHeartbeats 8000000
namespace Toy
open PySem PySem.Spec PyProof.Rows L2 VS
def top (i : Nat) : Stmt := PySem.Challenge.pw_agedreads_k13_runs_refused.main.body.getD i (.Pass ⟨0, 0, 0, 0⟩)
def xi_InvalidNet : List (Nat × Bool) := [(2, false), (3, true), (4, false), (5, false), (6, false), (7, false)]
def xi_InvalidPhases : List (Nat × Bool) := [(2, false), (3, false), (4, true), (5, false), (6, false), (7, false)]
def xi_InvalidName : List (Nat × Bool) := [(2, false), (3, false), (4, false), (5, false), (6, true), (7, false)]
def xi_InvalidPath : List (Nat × Bool) := [(2, false), (3, false), (4, false), (5, true), (6, false), (7, false)]
def xi_InvalidNumber : List (Nat × Bool) := [(2, false), (3, false), (4, false), (5, false), (6, false), (7, true)]
def ct_AgedReadsError : List Nat := [2, 3, 4, 5, 6, 7]
def xvs : List Nat := [2, 3, 4, 5, 6, 7]
abbrev oNo : Addr → Option Str := fun _ => none
structure Txt (G : Gx) (mg : Str → Option Value) : Prop where
  n_abs : mg "abs" = none
  n_bool : mg "bool" = none
  n_enumerate : mg "enumerate" = none
  n_int : mg "int" = none
  n_isinstance : mg "isinstance" = none
  n_len : mg "len" = none
  n_list : mg "list" = none
  n_max : mg "max" = none
  n_range : mg "range" = none
  n_repr : mg "repr" = none
  n_set : mg "set" = none
  n_sorted : mg "sorted" = none
  n_str : mg "str" = none
  n_super : mg "super" = none
  n_tuple : mg "tuple" = none
  n_zip : mg "zip" = none
  g_LETTERS : ∃ u, mg "LETTERS" = some u ∧ L2.RelV (.str "abcdefghijklmnopqrstuvwxyz") u
  c0 : ClsOk G.K (G.cls 0)
  g0 : mg "Step" = some (.ref (G.cls 0))
  nf0 : (G.fld 0).length = 4
  a0_label : NoAttr G.K (G.cls 0) "label"
  l0_label : look "label" (G.fld 0) = some 0
  a0_turn : NoAttr G.K (G.cls 0) "turn"
  l0_turn : look "turn" (G.fld 0) = some 1
  a0_lag : NoAttr G.K (G.cls 0) "lag"
  l0_lag : look "lag" (G.fld 0) = some 2
  a0_sources : NoAttr G.K (G.cls 0) "sources"
  l0_sources : look "sources" (G.fld 0) = some 3
  nbi0 : NoBi G.K (G.cls 0)
  c1 : ClsOk G.K (G.cls 1)
  g1 : mg "Net" = some (.ref (G.cls 1))
  nf1 : (G.fld 1).length = 1
  a1_nodes : NoAttr G.K (G.cls 1) "nodes"
  l1_nodes : look "nodes" (G.fld 1) = some 0
  nbi1 : NoBi G.K (G.cls 1)
  xv : XvAll G.K G [2, 3, 4, 5, 6, 7]
  xi_InvalidNet : ∃ C, mg "InvalidNet" = some (.ref C) ∧ XiAll G.K G (.ref C) [(2, false), (3, true), (4, false), (5, false), (6, false), (7, false)]
  xi_InvalidPhases : ∃ C, mg "InvalidPhases" = some (.ref C) ∧ XiAll G.K G (.ref C) [(2, false), (3, false), (4, true), (5, false), (6, false), (7, false)]
  xi_InvalidName : ∃ C, mg "InvalidName" = some (.ref C) ∧ XiAll G.K G (.ref C) [(2, false), (3, false), (4, false), (5, false), (6, true), (7, false)]
  xi_InvalidPath : ∃ C, mg "InvalidPath" = some (.ref C) ∧ XiAll G.K G (.ref C) [(2, false), (3, false), (4, false), (5, true), (6, false), (7, false)]
  xi_InvalidNumber : ∃ C, mg "InvalidNumber" = some (.ref C) ∧ XiAll G.K G (.ref C) [(2, false), (3, false), (4, false), (5, false), (6, false), (7, true)]
  ct_AgedReadsError : CatchX G.K G mg "AgedReadsError" [2, 3, 4, 5, 6, 7]
abbrev N_law_purse : List Str := ["_law_script", "_law_at", "_law_cell"]
abbrev s_law_purse : Stmt := top 51
theorem sc_law_purse : FnScope N_law_purse ["_law_script", "_law_at"] (defScope s_law_purse) := ⟨rfl, rfl, rfl, by decide +kernel, rfl, by decide +kernel, by decide +kernel⟩
def b_law_purse : SS := (kS (kSet 2 (sK (.int 0)))
    (kS (kIf (sB (s2 gLt (sV 1) (sL gLen (aC (sV 0) aN))))
    (kSet 2 (s2 gIx (sV 0) (sV 1))) kN)
    (kRetL (aC (s2 gMod (sL gInt (aC (sL gMax (aC (s2 gSub (sV 2) (s2 gPow (sK (.int 10)) (sK (.int 18)))) (aC (sK (.int 0)) aN))) aN)) (s2 gPow (s2 gPow (sK (.int 10)) (sK (.int 40))) (sK (.int 10)))) (aC (s2 gMod (sL gInt (aC (sV 2) aN)) (sK (.int 2147483629))) (aC (sK (.int 0)) aN))))))
def m_law_purse : MirM := mirM 3 b_law_purse
abbrev N_is_name : List Str := ["value", "letter"]
abbrev s_is_name : Stmt := top 11
theorem sc_is_name : FnScope N_is_name ["value"] (defScope s_is_name) := ⟨rfl, rfl, rfl, by decide +kernel, rfl, by decide +kernel, by decide +kernel⟩
def b_is_name : SS := (kS (kIf (bOr (bNot (sB (s1 (gIsTy2 2) (sV 0)))) (bNot (sB (sCh gLe gLe (sK (.int 1)) (sL gLen (aC (sV 0) aN)) (sK (.int 8))))))
    (kRet (sK (.bl false))) kN)
    (kRet (s2 gEqL (sComp (iStr (sV 0)) (.nm 1) (sB (s2 gNotIn (sV 1) (sK (.str "abcdefghijklmnopqrstuvwxyz")))) (sV 1)) (sL gLst aN))))
def m_is_name : Mir := mir 2 b_is_name
abbrev N_is_whole : List Str := ["value"]
abbrev s_is_whole : Stmt := top 10
theorem sc_is_whole : FnScope N_is_whole ["value"] (defScope s_is_whole) := ⟨rfl, rfl, rfl, by decide +kernel, rfl, by decide +kernel, by decide +kernel⟩
def b_is_whole : SS := (kRet (sAnd (s1 (gIsTy2 1) (sV 0)) (s1 gNot (s1 (gIsTy2 0) (sV 0)))))
def m_is_whole : Mir := mir 1 b_is_whole
abbrev N_are_names : List Str := ["value", "one"]
abbrev s_are_names : Stmt := top 12
theorem sc_are_names : FnScope N_are_names ["value"] (defScope s_are_names) := ⟨rfl, rfl, rfl, by decide +kernel, rfl, by decide +kernel, by decide +kernel⟩
def b_are_names : SS := (kS (kIf (bOr (bNot (sB (s1 (gIsTy2 3) (sV 0)))) (sB (s2 gNe (sComp (iSeq (sV 0)) (.nm 1) (bNot (sB (sCall 1 m_is_name (aC (sV 1) aN)))) (sV 1)) (sL gLst aN))))
    (kRet (sK (.bl false))) kN)
    (kRet (s2 gEq (s1 gLenSet (sV 0)) (sL gLen (aC (sV 0) aN)))))
def m_are_names : Mir := mir 2 b_are_names
abbrev N_Step_init : List Str := ["self", "name", "period", "delay", "reads"]
abbrev s_Step_init : Stmt := inClass (top 18) 0
theorem sc_Step_init : FnScope N_Step_init ["self", "name", "period", "delay", "reads"] (defScope s_Step_init) := ⟨rfl, rfl, rfl, by decide +kernel, rfl, by decide +kernel, by decide +kernel⟩
def b_Step_init : SS := (kS (kIf (bOr (bNot (sB (sCall 1 m_is_name (aC (sV 1) aN)))) (bOr (bNot (sB (sCall 1 m_is_whole (aC (sV 2) aN)))) (bOr (bNot (sB (sCall 1 m_is_whole (aC (sV 3) aN)))) (bNot (sB (sCall 1 m_are_names (aC (sV 4) aN)))))))
    kNever kN)
    (kS (kIf (bOr (sB (s2 gLt (sV 2) (sK (.int 1)))) (sB (s2 gLt (sV 3) (sK (.int 0)))))
    kNever kN)
    (kS (kSelf 0 0 (sV 1))
    (kS (kSelf 0 1 (sV 2))
    (kS (kSelf 0 2 (sV 3))
    (kSelf 0 3 (sL gTuple (aC (sV 4) aN))))))))
def m_Step_init : Mir := mir 5 b_Step_init
abbrev N_are_steps : List Str := ["value", "names", "step", "one", "name"]
abbrev s_are_steps : Stmt := top 19
theorem sc_are_steps : FnScope N_are_steps ["value"] (defScope s_are_steps) := ⟨rfl, rfl, rfl, by decide +kernel, rfl, by decide +kernel, by decide +kernel⟩
def b_are_steps : SS := (kS (kIf (bOr (bNot (sB (s1 (gIsTy2 3) (sV 0)))) (bOr (sB (s2 gEqL (sV 0) (sL gLst aN))) (sB (s2 gNe (sComp (iSeq (sV 0)) (.nm 3) (bNot (sB (s1 (gIsCX 0) (sV 3)))) (sV 3)) (sL gLst aN)))))
    (kRet (sK (.bl false))) kN)
    (kS (kSet 1 (sComp (iSeq (sV 0)) (.nm 2) bYes (s1 (gFld 0 0) (sV 2))))
    (kS (kIf (bNot (sB (sCall 1 m_are_names (aC (sV 1) aN))))
    (kRet (sK (.bl false))) kN)
    (kS (kFor (iSeq (sV 0)) (.nm 2)
    (kIf (sB (s2 gNe (sComp (iTupl (s1 (gFld 0 3) (sV 2))) (.nm 4) (sB (s2 gNotIn (sV 4) (sV 1))) (sV 4)) (sL gLst aN)))
    (kRet (sK (.bl false))) kN))
    (kRet (sK (.bl true)))))))
def m_are_steps : Mir := mir 5 b_are_steps
abbrev N_Net_init : List Str := ["self", "steps"]
abbrev s_Net_init : Stmt := inClass (top 20) 0
theorem sc_Net_init : FnScope N_Net_init ["self", "steps"] (defScope s_Net_init) := ⟨rfl, rfl, rfl, by decide +kernel, rfl, by decide +kernel, by decide +kernel⟩
def b_Net_init : SS := (kS (kIf (bNot (sB (sCall 1 m_are_steps (aC (sV 1) aN))))
    kNever kN)
    (kSelf 1 0 (sL gTuple (aC (sV 1) aN))))
def m_Net_init : Mir := mir 2 b_Net_init
abbrev N_law_made : List Str := ["_law_net", "_law_name", "_law_period", "_law_delay", "_law_reads"]
abbrev s_law_made : Stmt := top 54
theorem sc_law_made : FnScope N_law_made ["_law_net"] (defScope s_law_made) := ⟨rfl, rfl, rfl, by decide +kernel, rfl, by decide +kernel, by decide +kernel⟩
def b_law_made : SS := (kRet (sMake 1 1 2 m_Net_init (aC (sComp (iTupl (sV 0)) (.tp [1, 2, 3, 4]) bYes (sMake 0 4 5 m_Step_init (aC (sV 1) (aC (sV 2) (aC (sV 3) (aC (sL gList (aC (sV 4) aN)) aN)))))) aN)))
def m_law_made : Mir := mir 5 b_law_made
abbrev N_law_draw : List Str := ["_law_purse_here", "_law_many", "_law_drawn", "_law_turn", "_law_number"]
abbrev s_law_draw : Stmt := top 52
theorem sc_law_draw : FnScope N_law_draw ["_law_purse_here", "_law_many"] (defScope s_law_draw) := ⟨rfl, rfl, rfl, by decide +kernel, rfl, by decide +kernel, by decide +kernel⟩
def b_law_draw : SS := (kS (kIf (sB (s2 gGt (sIxM 0 (sK (.int 0))) (sK (.int 0))))
    (kS (kSet 2 (s2 gMod (sL gInt (aC (sIxM 0 (sK (.int 0))) aN)) (sV 1)))
    (kS (kPut 0 (sK (.int 0)) (s2 gFdiv (sIxM 0 (sK (.int 0))) (sV 1)))
    (kRet (sV 2)))) kN)
    (kS (kSet 3 (s2 gAdd (sIxM 0 (sK (.int 2))) (sK (.int 1))))
    (kS (kPut 0 (sK (.int 2)) (sV 3))
    (kS (kSet 4 (s2 gMod (sL gInt (aC (s2 gMul (s2 gAdd (sIxM 0 (sK (.int 1))) (s2 gMul (sK (.int 104729)) (sV 3))) (s2 gAdd (s2 gMul (sV 3) (sV 3)) (sK (.int 7919)))) aN)) (sK (.int 2147483629))))
    (kS (kSet 4 (s2 gMod (sL gInt (aC (s2 gAdd (s2 gMul (sV 4) (sV 4)) (sV 3)) aN)) (sK (.int 2147483587))))
    (kRet (s2 gMod (s2 gFdiv (s2 gMod (sL gInt (aC (s2 gMul (sV 4) (sK (.int 48271))) aN)) (sK (.int 2147483647))) (sK (.int 64))) (sV 1))))))))
def m_law_draw : Mir := mir 5 b_law_draw
abbrev N_law_pick : List Str := ["_law_purse_here", "_law_items"]
abbrev s_law_pick : Stmt := top 53
theorem sc_law_pick : FnScope N_law_pick ["_law_purse_here", "_law_items"] (defScope s_law_pick) := ⟨rfl, rfl, rfl, by decide +kernel, rfl, by decide +kernel, by decide +kernel⟩
def b_law_pick : SS := (kRet (s2 gIx (sV 1) (sCallM 2 m_law_draw 0 (aC (sL gLen (aC (sV 1) aN)) aN))))
def m_law_pick : Mir := mir 2 b_law_pick
abbrev N_law_phases : List Str := ["_law_purse_here", "_law_net", "_law_found", "_law_many", "_law_name", "_law_period", "_law_delay", "_law_reads", "_law_number"]
abbrev s_law_phases : Stmt := top 55
theorem sc_law_phases : FnScope N_law_phases ["_law_purse_here", "_law_net"] (defScope s_law_phases) := ⟨rfl, rfl, rfl, by decide +kernel, rfl, by decide +kernel, by decide +kernel⟩
def b_law_phases : SS := (kS (kParL 2 3 aN (sCallM 2 m_law_pick 0 (aC (sL gLst (aC (sK (.int 1)) (aC (sK (.int 1)) (aC (sK (.int 2)) (aC (sK (.int 3)) (aC (sK (.int 4)) (aC (sK (.int 7)) (aC (sK (.int 60)) aN)))))))) aN)))
    (kS (kFor (iTupl (sV 1)) (.tp [4, 5, 6, 7])
    (kS (kSet 8 (s2 gSub (sCallM 2 m_law_draw 0 (aC (s2 gMul (s2 gMul (sK (.int 3)) (sV 5)) (sV 3)) aN)) (sCallM 2 m_law_pick 0 (aC (sL gLst (aC (sK (.int 0)) (aC (sK (.int 0)) (aC (s2 gMul (sV 5) (sV 3)) aN)))) aN))))
    (kS (kApp 2 (sL gTup (aC (sV 8) (aC (sV 3) aN))))
    (kS (kIf (sB (s2 gEq (sCallM 2 m_law_draw 0 (aC (sK (.int 4)) aN)) (sK (.int 0))))
    (kPut 2 (s1 gNeg (sK (.int 1))) (sL gTup (aC (sCallM 2 m_law_draw 0 (aC (s2 gMul (sK (.int 2)) (sV 5)) aN)) (aC (sK (.int 1)) aN)))) kN)
    (kIf (sB (s2 gEq (sCallM 2 m_law_draw 0 (aC (sK (.int 8)) aN)) (sK (.int 0))))
    (kPut 2 (s1 gNeg (sK (.int 1))) (sL gTup (aC (s2 gMul (s2 gIx (sIxM 2 (s1 gNeg (sK (.int 1)))) (sK (.int 0))) (sK (.int 3))) (aC (s2 gMul (s2 gIx (sIxM 2 (s1 gNeg (sK (.int 1)))) (sK (.int 1))) (sK (.int 3))) aN)))) kN)))))
    (kRet (sL gTuple (aC (sV 2) aN)))))
def m_law_phases : Mir := mir 9 b_law_phases
abbrev N_law_run : List Str := ["_law_purse_here", "_law_number", "_law_turn"]
abbrev s_law_run : Stmt := top 56
theorem sc_law_run : FnScope N_law_run ["_law_purse_here"] (defScope s_law_run) := ⟨rfl, rfl, rfl, by decide +kernel, rfl, by decide +kernel, by decide +kernel⟩
def b_law_run : SS := (kS (kSet 1 (sCallM 2 m_law_draw 0 (aC (sK (.int 50)) aN)))
    (kS (kFor (iR (aC (sCallM 2 m_law_pick 0 (aC (sL gLst (aC (sK (.int 0)) (aC (sK (.int 0)) (aC (sK (.int 0)) (aC (sK (.int 1)) (aC (sK (.int 9)) aN)))))) aN)) aN)) (.nm 2)
    (kSet 1 (s2 gAdd (s2 gMul (sV 1) (sK (.int 1000))) (sCallM 2 m_law_draw 0 (aC (sK (.int 999)) aN)))))
    (kRet (s2 gSub (sV 1) (sCallM 2 m_law_pick 0 (aC (sL gLst (aC (sK (.int 0)) (aC (s2 gMul (sK (.int 2)) (sV 1)) aN))) aN))))))
def m_law_run : Mir := mir 3 b_law_run
abbrev N_check_net : List Str := ["value"]
abbrev s_check_net : Stmt := top 21
theorem sc_check_net : FnScope N_check_net ["value"] (defScope s_check_net) := ⟨rfl, rfl, rfl, by decide +kernel, rfl, by decide +kernel, by decide +kernel⟩
def b_check_net : SS := (kIf (bNot (sB (s1 (gIsCX 1) (sV 0))))
    kNever kN)
def m_check_net : Mir := mir 1 b_check_net
abbrev N_is_fraction : List Str := ["value", "one"]
abbrev s_is_fraction : Stmt := top 22
theorem sc_is_fraction : FnScope N_is_fraction ["value"] (defScope s_is_fraction) := ⟨rfl, rfl, rfl, by decide +kernel, rfl, by decide +kernel, by decide +kernel⟩
def b_is_fraction : SS := (kS (kIf (bOr (bNot (sB (s1 (gIsTy2 4) (sV 0)))) (bOr (sB (s2 gNe (sL gLen (aC (sV 0) aN)) (sK (.int 2)))) (sB (s2 gNe (sComp (iTupl (sV 0)) (.nm 1) (bNot (sB (sCall 1 m_is_whole (aC (sV 1) aN)))) (sV 1)) (sL gLst aN)))))
    (kRet (sK (.bl false))) kN)
    (kRet (s2 gGe (s2 gIx (sV 0) (sK (.int 1))) (sK (.int 1)))))
def m_is_fraction : Mir := mir 2 b_is_fraction
abbrev N_check_phases : List Str := ["net", "value", "one"]
abbrev s_check_phases : Stmt := top 23
theorem sc_check_phases : FnScope N_check_phases ["net", "value"] (defScope s_check_phases) := ⟨rfl, rfl, rfl, by decide +kernel, rfl, by decide +kernel, by decide +kernel⟩
def b_check_phases : SS := (kS (kIf (bOr (bNot (sB (s1 (gIsTy2 4) (sV 1)))) (sB (s2 gNe (sL gLen (aC (sV 1) aN)) (sL gLen (aC (s1 (gFld 1 0) (sV 0)) aN)))))
    kNever kN)
    (kIf (sB (s2 gNe (sComp (iTupl (sV 1)) (.nm 2) (bNot (sB (sCall 1 m_is_fraction (aC (sV 2) aN)))) (sV 2)) (sL gLst aN)))
    kNever kN))
def m_check_phases : Mir := mir 3 b_check_phases
abbrev N_check_net_and_phases : List Str := ["net", "phases"]
abbrev s_check_net_and_phases : Stmt := top 42
theorem sc_check_net_and_phases : FnScope N_check_net_and_phases ["net", "phases"] (defScope s_check_net_and_phases) := ⟨rfl, rfl, rfl, by decide +kernel, rfl, by decide +kernel, by decide +kernel⟩
def b_check_net_and_phases : SS := (kS (kDrop (sCall 1 m_check_net (aC (sV 0) aN)))
    (kDrop (sCall 2 m_check_phases (aC (sV 0) (aC (sV 1) aN)))))
def m_check_net_and_phases : Mir := mir 2 b_check_net_and_phases
abbrev N_place_of : List Str := ["net", "name", "at", "step"]
abbrev s_place_of : Stmt := top 24
theorem sc_place_of : FnScope N_place_of ["net", "name"] (defScope s_place_of) := ⟨rfl, rfl, rfl, by decide +kernel, rfl, by decide +kernel, by decide +kernel⟩
def b_place_of : SS := (kS (kIf (bNot (sB (s1 (gIsTy2 2) (sV 1))))
    (kRet (sK .non)) kN)
    (kS (kFor (iEnT (aC (s1 (gFld 1 0) (sV 0)) aN)) (.tp [2, 3])
    (kIf (sB (s2 gEq (s1 (gFld 0 0) (sV 3)) (sV 1)))
    (kRet (sV 2)) kN))
    (kRet (sK .non))))
def m_place_of : Mir := mir 4 b_place_of
abbrev N_check_name : List Str := ["net", "name"]
abbrev s_check_name : Stmt := top 25
theorem sc_check_name : FnScope N_check_name ["net", "name"] (defScope s_check_name) := ⟨rfl, rfl, rfl, by decide +kernel, rfl, by decide +kernel, by decide +kernel⟩
def b_check_name : SS := (kIf (sB (s1 gIsN (sCall 2 m_place_of (aC (sV 0) (aC (sV 1) aN)))))
    kNever kN)
def m_check_name : Mir := mir 2 b_check_name
abbrev N_check_whole : List Str := ["value"]
abbrev s_check_whole : Stmt := top 13
theorem sc_check_whole : FnScope N_check_whole ["value"] (defScope s_check_whole) := ⟨rfl, rfl, rfl, by decide +kernel, rfl, by decide +kernel, by decide +kernel⟩
def b_check_whole : SS := (kIf (bNot (sB (sCall 1 m_is_whole (aC (sV 0) aN))))
    kNever kN)
def m_check_whole : Mir := mir 1 b_check_whole
abbrev N_common_divisor : List Str := ["one", "other"]
abbrev s_common_divisor : Stmt := top 14
theorem sc_common_divisor : FnScope N_common_divisor ["one", "other"] (defScope s_common_divisor) := ⟨rfl, rfl, rfl, by decide +kernel, rfl, by decide +kernel, by decide +kernel⟩
def b_common_divisor : SS := (kS (kWhile (fuelI 1) (sB (s2 gNe (sV 1) (sK (.int 0))))
    (kPar [0, 1] (aC (sV 1) (aC (s2 gMod (sL gInt (aC (sV 0) aN)) (sL gInt (aC (sV 1) aN))) aN))))
    (kRet (sV 0)))
def m_common_divisor : Mir := mir 2 b_common_divisor
abbrev N_common_multiple : List Str := ["numbers", "found", "number"]
abbrev s_common_multiple : Stmt := top 15
theorem sc_common_multiple : FnScope N_common_multiple ["numbers"] (defScope s_common_multiple) := ⟨rfl, rfl, rfl, by decide +kernel, rfl, by decide +kernel, by decide +kernel⟩
def b_common_multiple : SS := (kS (kSet 1 (sK (.int 1)))
    (kS (kFor (iSeq (sV 0)) (.nm 2)
    (kSet 1 (s2 gMul (s2 gFdiv (sV 1) (sCall 2 m_common_divisor (aC (sV 1) (aC (sV 2) aN)))) (sV 2))))
    (kRet (sV 1))))
def m_common_multiple : Mir := mir 3 b_common_multiple
abbrev N_in_units : List Str := ["phases", "scale", "number", "total"]
abbrev s_in_units : Stmt := top 41
theorem sc_in_units : FnScope N_in_units ["phases"] (defScope s_in_units) := ⟨rfl, rfl, rfl, by decide +kernel, rfl, by decide +kernel, by decide +kernel⟩
def b_in_units : SS := (kS (kSet 1 (sCall 1 m_common_multiple (aC (sComp (iTupl (sV 0)) (.tp [2, 3]) bYes (sV 3)) aN)))
    (kRet (sL gTup (aC (sComp (iTupl (sV 0)) (.tp [2, 3]) bYes (s2 gMul (sV 2) (s2 gFdiv (sV 1) (sV 3)))) (aC (sV 1) aN)))))
def m_in_units : Mir := mir 4 b_in_units
abbrev N_time_begun : List Str := ["net", "starts", "scale", "place", "run"]
abbrev s_time_begun : Stmt := top 32
theorem sc_time_begun : FnScope N_time_begun ["net", "starts", "scale", "place", "run"] (defScope s_time_begun) := ⟨rfl, rfl, rfl, by decide +kernel, rfl, by decide +kernel, by decide +kernel⟩
def b_time_begun : SS := (kRet (s2 gAdd (s2 gIx (sV 1) (sV 3)) (s2 gMul (s2 gMul (sV 4) (s1 (gFld 0 1) (s2 gIx (s1 (gFld 1 0) (sV 0)) (sV 3)))) (sV 2))))
def m_time_begun : Mir := mir 5 b_time_begun
abbrev N_lowest : List Str := ["number", "total", "shared"]
abbrev s_lowest : Stmt := top 16
theorem sc_lowest : FnScope N_lowest ["number", "total"] (defScope s_lowest) := ⟨rfl, rfl, rfl, by decide +kernel, rfl, by decide +kernel, by decide +kernel⟩
def b_lowest : SS := (kS (kSet 2 (sCall 2 m_common_divisor (aC (sL gAbs (aC (sV 0) aN)) (aC (sV 1) aN))))
    (kRet (sL gTup (aC (s2 gFdiv (sV 0) (sV 2)) (aC (s2 gFdiv (sV 1) (sV 2)) aN)))))
def m_lowest : Mir := mir 3 b_lowest
abbrev N_begun : List Str := ["net", "phases", "name", "run", "starts", "scale"]
abbrev s_begun : Stmt := top 43
theorem sc_begun : FnScope N_begun ["net", "phases", "name", "run"] (defScope s_begun) := ⟨rfl, rfl, rfl, by decide +kernel, rfl, by decide +kernel, by decide +kernel⟩
def b_begun : SS := (kS (kDrop (sCall 2 m_check_net_and_phases (aC (sV 0) (aC (sV 1) aN))))
    (kS (kDrop (sCall 2 m_check_name (aC (sV 0) (aC (sV 2) aN))))
    (kS (kDrop (sCall 1 m_check_whole (aC (sV 3) aN)))
    (kS (kTup [4, 5] (sCall 1 m_in_units (aC (sV 1) aN)))
    (kRet (sCall 2 m_lowest (aC (sCall 5 m_time_begun (aC (sV 0) (aC (sV 4) (aC (sV 5) (aC (sCall 2 m_place_of (aC (sV 0) (aC (sV 2) aN))) (aC (sV 3) aN)))))) (aC (sV 5) aN))))))))
def m_begun : Mir := mir 6 b_begun
abbrev N_run_read : List Str := ["net", "starts", "scale", "reader", "source", "run", "begin", "behind"]
abbrev s_run_read : Stmt := top 30
theorem sc_run_read : FnScope N_run_read ["net", "starts", "scale", "reader", "source", "run"] (defScope s_run_read) := ⟨rfl, rfl, rfl, by decide +kernel, rfl, by decide +kernel, by decide +kernel⟩
def b_run_read : SS := (kS (kSet 6 (s2 gAdd (s2 gIx (sV 1) (sV 3)) (s2 gMul (s2 gMul (sV 5) (s1 (gFld 0 1) (s2 gIx (s1 (gFld 1 0) (sV 0)) (sV 3)))) (sV 2))))
    (kS (kSet 7 (s2 gSub (s2 gSub (sV 6) (s2 gIx (sV 1) (sV 4))) (s2 gMul (s1 (gFld 0 2) (s2 gIx (s1 (gFld 1 0) (sV 0)) (sV 4))) (sV 2))))
    (kRet (s2 gFdiv (sV 7) (s2 gMul (s1 (gFld 0 1) (s2 gIx (s1 (gFld 1 0) (sV 0)) (sV 4))) (sV 2))))))
def m_run_read : Mir := mir 8 b_run_read
abbrev N_newest : List Str := ["net", "phases", "reader", "name", "run", "starts", "scale"]
abbrev s_newest : Stmt := top 44
theorem sc_newest : FnScope N_newest ["net", "phases", "reader", "name", "run"] (defScope s_newest) := ⟨rfl, rfl, rfl, by decide +kernel, rfl, by decide +kernel, by decide +kernel⟩
def b_newest : SS := (kS (kDrop (sCall 2 m_check_net_and_phases (aC (sV 0) (aC (sV 1) aN))))
    (kS (kDrop (sCall 2 m_check_name (aC (sV 0) (aC (sV 2) aN))))
    (kS (kIf (bOr (bNot (sB (s1 (gIsTy2 2) (sV 3)))) (sB (s2 gNotIn (sV 3) (s1 (gFld 0 3) (s2 gIx (s1 (gFld 1 0) (sV 0)) (sCall 2 m_place_of (aC (sV 0) (aC (sV 2) aN))))))))
    kNever kN)
    (kS (kDrop (sCall 1 m_check_whole (aC (sV 4) aN)))
    (kS (kTup [5, 6] (sCall 1 m_in_units (aC (sV 1) aN)))
    (kRet (sCall 6 m_run_read (aC (sV 0) (aC (sV 5) (aC (sV 6) (aC (sCall 2 m_place_of (aC (sV 0) (aC (sV 2) aN))) (aC (sCall 2 m_place_of (aC (sV 0) (aC (sV 3) aN))) (aC (sV 4) aN)))))))))))))
def m_newest : Mir := mir 7 b_newest
abbrev N_check_path : List Str := ["net", "value", "one", "other"]
abbrev s_check_path : Stmt := top 26
theorem sc_check_path : FnScope N_check_path ["net", "value"] (defScope s_check_path) := ⟨rfl, rfl, rfl, by decide +kernel, rfl, by decide +kernel, by decide +kernel⟩
def b_check_path : SS := (kS (kIf (bOr (bNot (sB (s1 (gIsTy2 3) (sV 1)))) (bOr (sB (s2 gEqL (sV 1) (sL gLst aN))) (sB (s2 gNe (sComp (iSeq (sV 1)) (.nm 2) (sB (s1 gIsN (sCall 2 m_place_of (aC (sV 0) (aC (sV 2) aN))))) (sV 2)) (sL gLst aN)))))
    kNever kN)
    (kFor (iZi (aC (sV 1) (aC (sSl (sV 1) (oS (sK (.int 1))) oN) aN))) (.tp [2, 3])
    (kIf (sB (s2 gNotIn (sV 2) (s1 (gFld 0 3) (s2 gIx (s1 (gFld 1 0) (sV 0)) (sCall 2 m_place_of (aC (sV 0) (aC (sV 3) aN)))))))
    kNever kN)))
def m_check_path : Mir := mir 4 b_check_path
abbrev N_places_of : List Str := ["net", "path", "name"]
abbrev s_places_of : Stmt := top 27
theorem sc_places_of : FnScope N_places_of ["net", "path"] (defScope s_places_of) := ⟨rfl, rfl, rfl, by decide +kernel, rfl, by decide +kernel, by decide +kernel⟩
def b_places_of : SS := (kRet (sComp (iSeq (sV 1)) (.nm 2) bYes (sCall 2 m_place_of (aC (sV 0) (aC (sV 2) aN)))))
def m_places_of : Mir := mir 3 b_places_of
abbrev N_run_carried : List Str := ["net", "starts", "scale", "places", "run", "at"]
abbrev s_run_carried : Stmt := top 31
theorem sc_run_carried : FnScope N_run_carried ["net", "starts", "scale", "places", "run"] (defScope s_run_carried) := ⟨rfl, rfl, rfl, by decide +kernel, rfl, by decide +kernel, by decide +kernel⟩
def b_run_carried : SS := (kS (kFor (iRD (aC (s2 gSub (sL gLen (aC (sV 3) aN)) (sK (.int 1))) (aC (sK (.int 0)) (aC (s1 gNeg (sK (.int 1))) aN)))) (.nm 5)
    (kSet 4 (sCall 6 m_run_read (aC (sV 0) (aC (sV 1) (aC (sV 2) (aC (s2 gIx (sV 3) (sV 5)) (aC (s2 gIx (sV 3) (s2 gSub (sV 5) (sK (.int 1)))) (aC (sV 4) aN)))))))))
    (kRet (sV 4)))
def m_run_carried : Mir := mir 6 b_run_carried
abbrev N_carried : List Str := ["net", "phases", "path", "run", "starts", "scale"]
abbrev s_carried : Stmt := top 45
theorem sc_carried : FnScope N_carried ["net", "phases", "path", "run"] (defScope s_carried) := ⟨rfl, rfl, rfl, by decide +kernel, rfl, by decide +kernel, by decide +kernel⟩
def b_carried : SS := (kS (kDrop (sCall 2 m_check_net_and_phases (aC (sV 0) (aC (sV 1) aN))))
    (kS (kDrop (sCall 2 m_check_path (aC (sV 0) (aC (sV 2) aN))))
    (kS (kDrop (sCall 1 m_check_whole (aC (sV 3) aN)))
    (kS (kTup [4, 5] (sCall 1 m_in_units (aC (sV 1) aN)))
    (kRet (sCall 5 m_run_carried (aC (sV 0) (aC (sV 4) (aC (sV 5) (aC (sCall 2 m_places_of (aC (sV 0) (aC (sV 2) aN))) (aC (sV 3) aN)))))))))))
def m_carried : Mir := mir 6 b_carried
abbrev N_time_written : List Str := ["net", "starts", "scale", "place", "run"]
abbrev s_time_written : Stmt := top 33
theorem sc_time_written : FnScope N_time_written ["net", "starts", "scale", "place", "run"] (defScope s_time_written) := ⟨rfl, rfl, rfl, by decide +kernel, rfl, by decide +kernel, by decide +kernel⟩
def b_time_written : SS := (kRet (s2 gAdd (sCall 5 m_time_begun (aC (sV 0) (aC (sV 1) (aC (sV 2) (aC (sV 3) (aC (sV 4) aN)))))) (s2 gMul (s1 (gFld 0 2) (s2 gIx (s1 (gFld 1 0) (sV 0)) (sV 3))) (sV 2))))
def m_time_written : Mir := mir 5 b_time_written
abbrev N_age_of : List Str := ["net", "starts", "scale", "places", "run", "source", "written"]
abbrev s_age_of : Stmt := top 36
theorem sc_age_of : FnScope N_age_of ["net", "starts", "scale", "places", "run", "source"] (defScope s_age_of) := ⟨rfl, rfl, rfl, by decide +kernel, rfl, by decide +kernel, by decide +kernel⟩
def b_age_of : SS := (kS (kSet 6 (sCall 5 m_time_written (aC (sV 0) (aC (sV 1) (aC (sV 2) (aC (s2 gIx (sV 3) (s1 gNeg (sK (.int 1)))) (aC (sV 4) aN)))))))
    (kRet (s2 gSub (sV 6) (sCall 5 m_time_begun (aC (sV 0) (aC (sV 1) (aC (sV 2) (aC (s2 gIx (sV 3) (sK (.int 0))) (aC (sV 5) aN)))))))))
def m_age_of : Mir := mir 7 b_age_of
abbrev N_age : List Str := ["net", "phases", "path", "run", "source", "starts", "scale"]
abbrev s_age : Stmt := top 46
theorem sc_age : FnScope N_age ["net", "phases", "path", "run"] (defScope s_age) := ⟨rfl, rfl, rfl, by decide +kernel, rfl, by decide +kernel, by decide +kernel⟩
def b_age : SS := (kS (kSet 4 (sCall 4 m_carried (aC (sV 0) (aC (sV 1) (aC (sV 2) (aC (sV 3) aN))))))
    (kS (kTup [5, 6] (sCall 1 m_in_units (aC (sV 1) aN)))
    (kRet (sCall 2 m_lowest (aC (sCall 6 m_age_of (aC (sV 0) (aC (sV 5) (aC (sV 6) (aC (sCall 2 m_places_of (aC (sV 0) (aC (sV 2) aN))) (aC (sV 3) (aC (sV 4) aN))))))) (aC (sV 6) aN))))))
def m_age : Mir := mir 7 b_age
abbrev N_whole_turn : List Str := ["net", "step"]
abbrev s_whole_turn : Stmt := top 28
theorem sc_whole_turn : FnScope N_whole_turn ["net"] (defScope s_whole_turn) := ⟨rfl, rfl, rfl, by decide +kernel, rfl, by decide +kernel, by decide +kernel⟩
def b_whole_turn : SS := (kRet (sCall 1 m_common_multiple (aC (sComp (iTupl (s1 (gFld 1 0) (sV 0))) (.nm 1) bYes (s1 (gFld 0 1) (sV 1))) aN)))
def m_whole_turn : Mir := mir 2 b_whole_turn
abbrev N_runs_in_turn : List Str := ["net", "place"]
abbrev s_runs_in_turn : Stmt := top 34
theorem sc_runs_in_turn : FnScope N_runs_in_turn ["net", "place"] (defScope s_runs_in_turn) := ⟨rfl, rfl, rfl, by decide +kernel, rfl, by decide +kernel, by decide +kernel⟩
def b_runs_in_turn : SS := (kRet (s2 gFdiv (sCall 1 m_whole_turn (aC (sV 0) aN)) (s1 (gFld 0 1) (s2 gIx (s1 (gFld 1 0) (sV 0)) (sV 1)))))
def m_runs_in_turn : Mir := mir 2 b_runs_in_turn
abbrev N_all_carried : List Str := ["net", "starts", "scale", "places", "many", "run"]
abbrev s_all_carried : Stmt := top 35
theorem sc_all_carried : FnScope N_all_carried ["net", "starts", "scale", "places"] (defScope s_all_carried) := ⟨rfl, rfl, rfl, by decide +kernel, rfl, by decide +kernel, by decide +kernel⟩
def b_all_carried : SS := (kS (kSet 4 (sCall 2 m_runs_in_turn (aC (sV 0) (aC (s2 gIx (sV 3) (s1 gNeg (sK (.int 1)))) aN))))
    (kRet (sComp (iR2 (aC (s2 gSub (sK (.int 0)) (sK (.int 1))) (aC (sV 4) aN))) (.nm 5) bYes (sCall 5 m_run_carried (aC (sV 0) (aC (sV 1) (aC (sV 2) (aC (sV 3) (aC (sV 5) aN)))))))))
def m_all_carried : Mir := mir 6 b_all_carried
abbrev N_all_ages : List Str := ["net", "starts", "scale", "places", "sources", "run", "source"]
abbrev s_all_ages : Stmt := top 37
theorem sc_all_ages : FnScope N_all_ages ["net", "starts", "scale", "places"] (defScope s_all_ages) := ⟨rfl, rfl, rfl, by decide +kernel, rfl, by decide +kernel, by decide +kernel⟩
def b_all_ages : SS := (kS (kSet 4 (sSl (sCall 4 m_all_carried (aC (sV 0) (aC (sV 1) (aC (sV 2) (aC (sV 3) aN))))) (oS (sK (.int 1))) oN))
    (kRet (sComp (iEn (aC (sV 4) aN)) (.tp [5, 6]) bYes (sCall 6 m_age_of (aC (sV 0) (aC (sV 1) (aC (sV 2) (aC (sV 3) (aC (sV 5) (aC (sV 6) aN))))))))))
def m_all_ages : Mir := mir 7 b_all_ages
abbrev N_ages : List Str := ["net", "phases", "path", "starts", "scale", "found", "one"]
abbrev s_ages : Stmt := top 47
theorem sc_ages : FnScope N_ages ["net", "phases", "path"] (defScope s_ages) := ⟨rfl, rfl, rfl, by decide +kernel, rfl, by decide +kernel, by decide +kernel⟩
def b_ages : SS := (kS (kDrop (sCall 2 m_check_net_and_phases (aC (sV 0) (aC (sV 1) aN))))
    (kS (kDrop (sCall 2 m_check_path (aC (sV 0) (aC (sV 2) aN))))
    (kS (kTup [3, 4] (sCall 1 m_in_units (aC (sV 1) aN)))
    (kS (kSet 5 (sL gSorted (aC (sComp (iSeq (sCall 4 m_all_ages (aC (sV 0) (aC (sV 3) (aC (sV 4) (aC (sCall 2 m_places_of (aC (sV 0) (aC (sV 2) aN))) aN)))))) (.nm 6) bYes (sL gInt (aC (sV 6) aN))) aN)))
    (kRet (sL gTup (aC (sCall 2 m_lowest (aC (s2 gIx (sV 5) (sK (.int 0))) (aC (sV 4) aN))) (aC (sCall 2 m_lowest (aC (s2 gIx (sV 5) (s1 gNeg (sK (.int 1)))) (aC (sV 4) aN))) aN))))))))
def m_ages : Mir := mir 7 b_ages
abbrev N_greatest_wait : List Str := ["net", "starts", "scale", "places", "sources", "best", "run", "before", "source", "written", "wait"]
abbrev s_greatest_wait : Stmt := top 38
theorem sc_greatest_wait : FnScope N_greatest_wait ["net", "starts", "scale", "places"] (defScope s_greatest_wait) := ⟨rfl, rfl, rfl, by decide +kernel, rfl, by decide +kernel, by decide +kernel⟩
def b_greatest_wait : SS := (kS (kSet 4 (sCall 4 m_all_carried (aC (sV 0) (aC (sV 1) (aC (sV 2) (aC (sV 3) aN))))))
    (kS (kSet 5 (sK .non))
    (kS (kFor (iEnZ (aC (sV 4) (aC (sSl (sV 4) (oS (sK (.int 1))) oN) aN))) (.np 6 [7, 8])
    (kIf (sB (s2 gLt (sV 7) (sV 8)))
    (kS (kSet 9 (sCall 5 m_time_written (aC (sV 0) (aC (sV 1) (aC (sV 2) (aC (s2 gIx (sV 3) (s1 gNeg (sK (.int 1)))) (aC (sV 6) aN)))))))
    (kS (kSet 10 (s2 gSub (sV 9) (sCall 5 m_time_begun (aC (sV 0) (aC (sV 1) (aC (sV 2) (aC (s2 gIx (sV 3) (sK (.int 0))) (aC (sV 7) aN))))))))
    (kIf (bOr (sB (s1 gIsN (sV 5))) (sB (s2 gGt (sV 10) (sV 5))))
    (kSet 5 (sV 10)) kN))) kN))
    (kRet (sV 5)))))
def m_greatest_wait : Mir := mir 11 b_greatest_wait
abbrev N_longest_wait : List Str := ["net", "phases", "path", "starts", "scale"]
abbrev s_longest_wait : Stmt := top 48
theorem sc_longest_wait : FnScope N_longest_wait ["net", "phases", "path"] (defScope s_longest_wait) := ⟨rfl, rfl, rfl, by decide +kernel, rfl, by decide +kernel, by decide +kernel⟩
def b_longest_wait : SS := (kS (kDrop (sCall 2 m_check_net_and_phases (aC (sV 0) (aC (sV 1) aN))))
    (kS (kDrop (sCall 2 m_check_path (aC (sV 0) (aC (sV 2) aN))))
    (kS (kTup [3, 4] (sCall 1 m_in_units (aC (sV 1) aN)))
    (kRet (sCall 2 m_lowest (aC (sCall 4 m_greatest_wait (aC (sV 0) (aC (sV 3) (aC (sV 4) (aC (sCall 2 m_places_of (aC (sV 0) (aC (sV 2) aN))) aN))))) (aC (sV 4) aN)))))))
def m_longest_wait : Mir := mir 5 b_longest_wait
abbrev N_many_used : List Str := ["net", "starts", "scale", "places", "sources", "one", "other"]
abbrev s_many_used : Stmt := top 39
theorem sc_many_used : FnScope N_many_used ["net", "starts", "scale", "places"] (defScope s_many_used) := ⟨rfl, rfl, rfl, by decide +kernel, rfl, by decide +kernel, by decide +kernel⟩
def b_many_used : SS := (kS (kSet 4 (sCall 4 m_all_carried (aC (sV 0) (aC (sV 1) (aC (sV 2) (aC (sV 3) aN))))))
    (kRet (sL gLen (aC (sComp (iZi (aC (sV 4) (aC (sSl (sV 4) (oS (sK (.int 1))) oN) aN))) (.tp [5, 6]) (sB (s2 gLt (sV 5) (sV 6))) (sV 5)) aN))))
def m_many_used : Mir := mir 7 b_many_used
abbrev N_uses : List Str := ["net", "phases", "path", "starts", "scale", "places", "used", "many"]
abbrev s_uses : Stmt := top 49
theorem sc_uses : FnScope N_uses ["net", "phases", "path"] (defScope s_uses) := ⟨rfl, rfl, rfl, by decide +kernel, rfl, by decide +kernel, by decide +kernel⟩
def b_uses : SS := (kS (kDrop (sCall 2 m_check_net_and_phases (aC (sV 0) (aC (sV 1) aN))))
    (kS (kDrop (sCall 2 m_check_path (aC (sV 0) (aC (sV 2) aN))))
    (kS (kTup [3, 4] (sCall 1 m_in_units (aC (sV 1) aN)))
    (kS (kSet 5 (sCall 2 m_places_of (aC (sV 0) (aC (sV 2) aN))))
    (kS (kPar [6, 7] (aC (sCall 4 m_many_used (aC (sV 0) (aC (sV 3) (aC (sV 4) (aC (sV 5) aN))))) (aC (sCall 2 m_runs_in_turn (aC (sV 0) (aC (s2 gIx (sV 5) (s1 gNeg (sK (.int 1)))) aN))) aN)))
    (kRet (sL gTup (aC (sV 6) (aC (s2 gSub (sCall 2 m_runs_in_turn (aC (sV 0) (aC (s2 gIx (sV 5) (sK (.int 0))) aN))) (sV 6)) (aC (s2 gSub (sV 7) (sV 6)) (aC (sV 7) aN)))))))))))
def m_uses : Mir := mir 8 b_uses
abbrev N_law_called : List Str := ["_law_way", "_law_given"]
abbrev s_law_called : Stmt := top 57
theorem sc_law_called : FnScope N_law_called ["_law_way", "_law_given"] (defScope s_law_called) := ⟨rfl, rfl, rfl, by decide +kernel, rfl, by decide +kernel, by decide +kernel⟩
def b_law_called : SS := (kS (kIf (sB (s2 gEq (sV 0) (sK (.int 0))))
    (kRet (sCall 4 m_begun (aC (s2 gIx (sV 1) (sK (.int 0))) (aC (s2 gIx (sV 1) (sK (.int 1))) (aC (s2 gIx (sV 1) (sK (.int 2))) (aC (s2 gIx (sV 1) (sK (.int 3))) aN)))))) kN)
    (kS (kIf (sB (s2 gEq (sV 0) (sK (.int 1))))
    (kRet (sCall 5 m_newest (aC (s2 gIx (sV 1) (sK (.int 0))) (aC (s2 gIx (sV 1) (sK (.int 1))) (aC (s2 gIx (sV 1) (sK (.int 2))) (aC (s2 gIx (sV 1) (sK (.int 3))) (aC (s2 gIx (sV 1) (sK (.int 4))) aN))))))) kN)
    (kS (kIf (sB (s2 gEq (sV 0) (sK (.int 2))))
    (kRet (sCall 4 m_carried (aC (s2 gIx (sV 1) (sK (.int 0))) (aC (s2 gIx (sV 1) (sK (.int 1))) (aC (s2 gIx (sV 1) (sK (.int 2))) (aC (s2 gIx (sV 1) (sK (.int 3))) aN)))))) kN)
    (kS (kIf (sB (s2 gEq (sV 0) (sK (.int 3))))
    (kRet (sCall 4 m_age (aC (s2 gIx (sV 1) (sK (.int 0))) (aC (s2 gIx (sV 1) (sK (.int 1))) (aC (s2 gIx (sV 1) (sK (.int 2))) (aC (s2 gIx (sV 1) (sK (.int 3))) aN)))))) kN)
    (kS (kIf (sB (s2 gEq (sV 0) (sK (.int 4))))
    (kRet (sCall 3 m_ages (aC (s2 gIx (sV 1) (sK (.int 0))) (aC (s2 gIx (sV 1) (sK (.int 1))) (aC (s2 gIx (sV 1) (sK (.int 2))) aN))))) kN)
    (kS (kIf (sB (s2 gEq (sV 0) (sK (.int 5))))
    (kRet (sCall 3 m_longest_wait (aC (s2 gIx (sV 1) (sK (.int 0))) (aC (s2 gIx (sV 1) (sK (.int 1))) (aC (s2 gIx (sV 1) (sK (.int 2))) aN))))) kN)
    (kRet (sCall 3 m_uses (aC (s2 gIx (sV 1) (sK (.int 0))) (aC (s2 gIx (sV 1) (sK (.int 1))) (aC (s2 gIx (sV 1) (sK (.int 2))) aN)))))))))))
def m_law_called : Mir := mir 2 b_law_called
abbrev N_law_kinds : List Str := ["_law_way"]
abbrev s_law_kinds : Stmt := top 60
theorem sc_law_kinds : FnScope N_law_kinds ["_law_way"] (defScope s_law_kinds) := ⟨rfl, rfl, rfl, by decide +kernel, rfl, by decide +kernel, by decide +kernel⟩
def b_law_kinds : SS := (kS (kIf (sB (s2 gEq (sV 0) (sK (.int 0))))
    (kRet (sL gLst (aC (sK (.int 0)) (aC (sK (.int 1)) (aC (sK (.int 2)) (aC (sK (.int 4)) aN)))))) kN)
    (kS (kIf (sB (s2 gEq (sV 0) (sK (.int 1))))
    (kRet (sL gLst (aC (sK (.int 0)) (aC (sK (.int 1)) (aC (sK (.int 2)) (aC (sK (.int 2)) (aC (sK (.int 4)) aN))))))) kN)
    (kRet (s2 gAdd (sL gLst (aC (sK (.int 0)) (aC (sK (.int 1)) (aC (sK (.int 3)) aN)))) (sSl (sL gLst (aC (sK (.int 4)) aN)) oN (oS (sL gInt (aC (s2 gLt (sV 0) (sK (.int 4))) aN))))))))
def m_law_kinds : Mir := mir 1 b_law_kinds
abbrev N_law_odd : List Str := ["_law_kind", "_law_net", "_law_phases_here", "_law_path", "_law_some"]
abbrev s_law_odd : Stmt := top 59
theorem sc_law_odd : FnScope N_law_odd ["_law_kind", "_law_net", "_law_phases_here", "_law_path"] (defScope s_law_odd) := ⟨rfl, rfl, rfl, by decide +kernel, rfl, by decide +kernel, by decide +kernel⟩
def b_law_odd : SS := (kS (kIf (sB (s2 gEq (sV 0) (sK (.int 0))))
    (kRet (sL gLst (aC (sK .non) (aC (sV 1) (aC (sL gLst aN) (aC (sK (.str "net")) (aC (sK (.int 0)) (aC (sK (.bl true)) aN)))))))) kN)
    (kS (kIf (sB (s2 gEq (sV 0) (sK (.int 1))))
    (kS (kSet 4 (sL gLst (aC (sK .non) (aC (sL gList (aC (sV 2) aN)) (aC (sSl (sV 2) (oS (sK (.int 1))) oN) (aC (s2 gAdd (sV 2) (sSl (sV 2) oN (oS (sK (.int 1))))) (aC (sK (.int 0)) (aC (sL gTup aN) (aC (sK (.str "0")) (aC (s2 gAdd (sL gTup (aC (sL gTup (aC (sK (.int 0)) (aC (sK (.int 0)) aN))) aN)) (sSl (sV 2) (oS (sK (.int 1))) oN)) aN))))))))))
    (kS (kSet 4 (s2 gAdd (sV 4) (sL gLst (aC (s2 gAdd (sL gTup (aC (sL gTup (aC (sK (.int 0)) (aC (s2 gSub (sK (.int 0)) (sK (.int 1))) aN))) aN)) (sSl (sV 2) (oS (sK (.int 1))) oN)) (aC (s2 gAdd (sL gTup (aC (sK (.int 0)) aN)) (sSl (sV 2) (oS (sK (.int 1))) oN)) (aC (s2 gAdd (sL gTup (aC (sL gTup (aC (sK (.int 0)) (aC (sK (.int 1)) (aC (sK (.int 1)) aN)))) aN)) (sSl (sV 2) (oS (sK (.int 1))) oN)) (aC (s2 gAdd (sL gTup (aC (sL gLst (aC (sK (.int 0)) (aC (sK (.int 1)) aN))) aN)) (sSl (sV 2) (oS (sK (.int 1))) oN)) aN)))))))
    (kRet (s2 gAdd (sV 4) (sL gLst (aC (s2 gAdd (sSl (sV 2) oN (oS (s1 gNeg (sK (.int 1))))) (sL gTup (aC (sL gTup (aC (sK (.bl true)) (aC (sK (.int 1)) aN))) aN))) (aC (s2 gAdd (sSl (sV 2) oN (oS (s1 gNeg (sK (.int 1))))) (sL gTup (aC (sL gTup (aC (sK (.int 0)) (aC (sK (.bl true)) aN))) aN))) (aC (s2 gAdd (sSl (sV 2) oN (oS (s1 gNeg (sK (.int 1))))) (sL gTup (aC (sK .non) aN))) aN)))))))) kN)
    (kS (kIf (sB (s2 gEq (sV 0) (sK (.int 2))))
    (kRet (sL gLst (aC (sK .non) (aC (sK (.int 0)) (aC (sK (.str "nobody")) (aC (sK (.str "")) (aC (sL gLst (aC (s2 gIx (s2 gIx (sV 1) (sK (.int 0))) (sK (.int 0))) aN)) (aC (sK (.bl true)) (aC (sL gTup (aC (s2 gIx (s2 gIx (sV 1) (sK (.int 0))) (sK (.int 0))) aN)) (aC (sV 1) aN)))))))))) kN)
    (kS (kIf (sB (s2 gEq (sV 0) (sK (.int 3))))
    (kRet (sL gLst (aC (sK .non) (aC (sL gLst aN) (aC (sL gTuple (aC (sV 3) aN)) (aC (s2 gIx (sV 3) (sK (.int 0))) (aC (sL gLst (aC (sK (.str "nobody")) aN)) (aC (s2 gAdd (sV 3) (sL gLst (aC (sK (.str "nobody")) aN))) (aC (s2 gAdd (sL gLst (aC (sK .non) aN)) (sV 3)) (aC (sK (.dct false [] [])) (aC (sL gLst (aC (sV 3) aN)) (aC (sL gLst (aC (sK (.str "zq")) (aC (sK (.str "zq")) aN))) aN)))))))))))) kN)
    (kRet (sL gLst (aC (sK .non) (aC (sK (.bl true)) (aC (sK (.bl false)) (aC (sK (.str "0")) (aC (sL gLst (aC (sK (.int 0)) aN)) (aC (sL gTup (aC (sK (.int 1)) aN)) (aC (sL gTup (aC (sK (.int 1)) (aC (sK (.int 1)) aN))) aN)))))))))))))
def m_law_odd : Mir := mir 5 b_law_odd
def bx_check_net : SX := (xIf (bNot (sB (s1 (gIsCX 1) (sU (sV 0)))))
    (xRaise 3 (sV 0)) xN)
def mx_check_net : MirX := mirX 1 bx_check_net
def bx_check_phases : SX := (xS (xIf (bOr (bNot (sB (s1 (gIsTy2 4) (sU (sV 1))))) (sB (s2 gNe (sL gLen (aC (sU (sV 1)) aN)) (sL gLen (aC (s1 (gFld 1 0) (sU (sV 0))) aN)))))
    (xRaise 4 (sV 1)) xN)
    (xIf (sB (s2 gNe (sComp (iTupl (sU (sV 1))) (.nm 2) (bNot (sB (sCall 1 m_is_fraction (aC (sU (sV 2)) aN)))) (sU (sV 2))) (sL gLst aN)))
    (xRaise 4 (sV 1)) xN))
def mx_check_phases : MirX := mirX 3 bx_check_phases
def bx_check_net_and_phases : SX := (xS (xDrop (sCallX 1 mx_check_net (aC (sV 0) aN)))
    (xDrop (sCallX 2 mx_check_phases (aC (sV 0) (aC (sV 1) aN)))))
def mx_check_net_and_phases : MirX := mirX 2 bx_check_net_and_phases
def bx_check_name : SX := (xIf (sB (s1 gIsN (sCall 2 m_place_of (aC (sU (sV 0)) (aC (sU (sV 1)) aN)))))
    (xRaise 6 (sV 1)) xN)
def mx_check_name : MirX := mirX 2 bx_check_name
def bx_check_whole : SX := (xIf (bNot (sB (sCall 1 m_is_whole (aC (sU (sV 0)) aN))))
    (xRaise 7 (sV 0)) xN)
def mx_check_whole : MirX := mirX 1 bx_check_whole
def bx_begun : SX := (xS (xDrop (sCallX 2 mx_check_net_and_phases (aC (sV 0) (aC (sV 1) aN))))
    (xS (xDrop (sCallX 2 mx_check_name (aC (sV 0) (aC (sV 2) aN))))
    (xS (xDrop (sCallX 1 mx_check_whole (aC (sV 3) aN)))
    (xS (xGo (kTup [4, 5] (sCall 1 m_in_units (aC (sU (sV 1)) aN))))
    (xGo (kRet (sCall 2 m_lowest (aC (sCall 5 m_time_begun (aC (sU (sV 0)) (aC (sU (sV 4)) (aC (sU (sV 5)) (aC (sCall 2 m_place_of (aC (sU (sV 0)) (aC (sU (sV 2)) aN))) (aC (sU (sV 3)) aN)))))) (aC (sU (sV 5)) aN)))))))))
def mx_begun : MirX := mirX 6 bx_begun
def bx_newest : SX := (xS (xDrop (sCallX 2 mx_check_net_and_phases (aC (sV 0) (aC (sV 1) aN))))
    (xS (xDrop (sCallX 2 mx_check_name (aC (sV 0) (aC (sV 2) aN))))
    (xS (xIf (bOr (bNot (sB (s1 (gIsTy2 2) (sU (sV 3))))) (sB (s2 gNotIn (sU (sV 3)) (s1 (gFld 0 3) (sU (s2 gIx (s1 (gFld 1 0) (sU (sV 0))) (sCall 2 m_place_of (aC (sU (sV 0)) (aC (sU (sV 2)) aN)))))))))
    (xRaise 6 (sV 3)) xN)
    (xS (xDrop (sCallX 1 mx_check_whole (aC (sV 4) aN)))
    (xS (xGo (kTup [5, 6] (sCall 1 m_in_units (aC (sU (sV 1)) aN))))
    (xGo (kRet (sCall 6 m_run_read (aC (sU (sV 0)) (aC (sU (sV 5)) (aC (sU (sV 6)) (aC (sCall 2 m_place_of (aC (sU (sV 0)) (aC (sU (sV 2)) aN))) (aC (sCall 2 m_place_of (aC (sU (sV 0)) (aC (sU (sV 3)) aN))) (aC (sU (sV 4)) aN))))))))))))))
def mx_newest : MirX := mirX 7 bx_newest
def bx_check_path : SX := (xS (xIf (bOr (bNot (sB (s1 (gIsTy2 3) (sU (sV 1))))) (bOr (sB (s2 gEqL (sU (sV 1)) (sL gLst aN))) (sB (s2 gNe (sComp (iSeq (sU (sV 1))) (.nm 2) (sB (s1 gIsN (sCall 2 m_place_of (aC (sU (sV 0)) (aC (sU (sV 2)) aN))))) (sU (sV 2))) (sL gLst aN)))))
    (xRaise 5 (sV 1)) xN)
    (xFor (iZi (aC (sU (sV 1)) (aC (sSl (sU (sV 1)) (oS (sK (.int 1))) oN) aN))) (.tp [2, 3])
    (xIf (sB (s2 gNotIn (sU (sV 2)) (s1 (gFld 0 3) (sU (s2 gIx (s1 (gFld 1 0) (sU (sV 0))) (sCall 2 m_place_of (aC (sU (sV 0)) (aC (sU (sV 3)) aN))))))))
    (xRaise 5 (sV 1)) xN)))
def mx_check_path : MirX := mirX 4 bx_check_path
def bx_carried : SX := (xS (xDrop (sCallX 2 mx_check_net_and_phases (aC (sV 0) (aC (sV 1) aN))))
    (xS (xDrop (sCallX 2 mx_check_path (aC (sV 0) (aC (sV 2) aN))))
    (xS (xDrop (sCallX 1 mx_check_whole (aC (sV 3) aN)))
    (xS (xGo (kTup [4, 5] (sCall 1 m_in_units (aC (sU (sV 1)) aN))))
    (xGo (kRet (sCall 5 m_run_carried (aC (sU (sV 0)) (aC (sU (sV 4)) (aC (sU (sV 5)) (aC (sCall 2 m_places_of (aC (sU (sV 0)) (aC (sU (sV 2)) aN))) (aC (sU (sV 3)) aN))))))))))))
def mx_carried : MirX := mirX 6 bx_carried
def bx_age : SX := (xS (xSet 4 (sCallX 4 mx_carried (aC (sV 0) (aC (sV 1) (aC (sV 2) (aC (sV 3) aN))))))
    (xS (xGo (kTup [5, 6] (sCall 1 m_in_units (aC (sU (sV 1)) aN))))
    (xGo (kRet (sCall 2 m_lowest (aC (sCall 6 m_age_of (aC (sU (sV 0)) (aC (sU (sV 5)) (aC (sU (sV 6)) (aC (sCall 2 m_places_of (aC (sU (sV 0)) (aC (sU (sV 2)) aN))) (aC (sU (sV 3)) (aC (sU (sV 4)) aN))))))) (aC (sU (sV 6)) aN)))))))
def mx_age : MirX := mirX 7 bx_age
def bx_ages : SX := (xS (xDrop (sCallX 2 mx_check_net_and_phases (aC (sV 0) (aC (sV 1) aN))))
    (xS (xDrop (sCallX 2 mx_check_path (aC (sV 0) (aC (sV 2) aN))))
    (xS (xGo (kTup [3, 4] (sCall 1 m_in_units (aC (sU (sV 1)) aN))))
    (xS (xGo (kSet 5 (sL gSorted (aC (sComp (iSeq (sCall 4 m_all_ages (aC (sU (sV 0)) (aC (sU (sV 3)) (aC (sU (sV 4)) (aC (sCall 2 m_places_of (aC (sU (sV 0)) (aC (sU (sV 2)) aN))) aN)))))) (.nm 6) bYes (sL gInt (aC (sU (sV 6)) aN))) aN))))
    (xGo (kRet (sL gTup (aC (sCall 2 m_lowest (aC (sU (s2 gIx (sU (sV 5)) (sK (.int 0)))) (aC (sU (sV 4)) aN))) (aC (sCall 2 m_lowest (aC (sU (s2 gIx (sU (sV 5)) (s1 gNeg (sK (.int 1))))) (aC (sU (sV 4)) aN))) aN)))))))))
def mx_ages : MirX := mirX 7 bx_ages
def bx_longest_wait : SX := (xS (xDrop (sCallX 2 mx_check_net_and_phases (aC (sV 0) (aC (sV 1) aN))))
    (xS (xDrop (sCallX 2 mx_check_path (aC (sV 0) (aC (sV 2) aN))))
    (xS (xGo (kTup [3, 4] (sCall 1 m_in_units (aC (sU (sV 1)) aN))))
    (xGo (kRet (sCall 2 m_lowest (aC (sCall 4 m_greatest_wait (aC (sU (sV 0)) (aC (sU (sV 3)) (aC (sU (sV 4)) (aC (sCall 2 m_places_of (aC (sU (sV 0)) (aC (sU (sV 2)) aN))) aN))))) (aC (sU (sV 4)) aN))))))))
def mx_longest_wait : MirX := mirX 5 bx_longest_wait
def bx_uses : SX := (xS (xDrop (sCallX 2 mx_check_net_and_phases (aC (sV 0) (aC (sV 1) aN))))
    (xS (xDrop (sCallX 2 mx_check_path (aC (sV 0) (aC (sV 2) aN))))
    (xS (xGo (kTup [3, 4] (sCall 1 m_in_units (aC (sU (sV 1)) aN))))
    (xS (xGo (kSet 5 (sCall 2 m_places_of (aC (sU (sV 0)) (aC (sU (sV 2)) aN)))))
    (xS (xGo (kPar [6, 7] (aC (sCall 4 m_many_used (aC (sU (sV 0)) (aC (sU (sV 3)) (aC (sU (sV 4)) (aC (sU (sV 5)) aN))))) (aC (sCall 2 m_runs_in_turn (aC (sU (sV 0)) (aC (sU (s2 gIx (sU (sV 5)) (s1 gNeg (sK (.int 1))))) aN))) aN))))
    (xGo (kRet (sL gTup (aC (sU (sV 6)) (aC (s2 gSub (sCall 2 m_runs_in_turn (aC (sU (sV 0)) (aC (sU (s2 gIx (sU (sV 5)) (sK (.int 0)))) aN))) (sU (sV 6))) (aC (s2 gSub (sU (sV 7)) (sU (sV 6))) (aC (sU (sV 7)) aN))))))))))))
def mx_uses : MirX := mirX 8 bx_uses
def bx_law_called : SX := (xS (xIf (sB (s2 gEq (sU (sV 0)) (sK (.int 0))))
    (xRet (sCallX 4 mx_begun (aC (s2 gIx (sU (sV 1)) (sK (.int 0))) (aC (s2 gIx (sU (sV 1)) (sK (.int 1))) (aC (s2 gIx (sU (sV 1)) (sK (.int 2))) (aC (s2 gIx (sU (sV 1)) (sK (.int 3))) aN)))))) xN)
    (xS (xIf (sB (s2 gEq (sU (sV 0)) (sK (.int 1))))
    (xRet (sCallX 5 mx_newest (aC (s2 gIx (sU (sV 1)) (sK (.int 0))) (aC (s2 gIx (sU (sV 1)) (sK (.int 1))) (aC (s2 gIx (sU (sV 1)) (sK (.int 2))) (aC (s2 gIx (sU (sV 1)) (sK (.int 3))) (aC (s2 gIx (sU (sV 1)) (sK (.int 4))) aN))))))) xN)
    (xS (xIf (sB (s2 gEq (sU (sV 0)) (sK (.int 2))))
    (xRet (sCallX 4 mx_carried (aC (s2 gIx (sU (sV 1)) (sK (.int 0))) (aC (s2 gIx (sU (sV 1)) (sK (.int 1))) (aC (s2 gIx (sU (sV 1)) (sK (.int 2))) (aC (s2 gIx (sU (sV 1)) (sK (.int 3))) aN)))))) xN)
    (xS (xIf (sB (s2 gEq (sU (sV 0)) (sK (.int 3))))
    (xRet (sCallX 4 mx_age (aC (s2 gIx (sU (sV 1)) (sK (.int 0))) (aC (s2 gIx (sU (sV 1)) (sK (.int 1))) (aC (s2 gIx (sU (sV 1)) (sK (.int 2))) (aC (s2 gIx (sU (sV 1)) (sK (.int 3))) aN)))))) xN)
    (xS (xIf (sB (s2 gEq (sU (sV 0)) (sK (.int 4))))
    (xRet (sCallX 3 mx_ages (aC (s2 gIx (sU (sV 1)) (sK (.int 0))) (aC (s2 gIx (sU (sV 1)) (sK (.int 1))) (aC (s2 gIx (sU (sV 1)) (sK (.int 2))) aN))))) xN)
    (xS (xIf (sB (s2 gEq (sU (sV 0)) (sK (.int 5))))
    (xRet (sCallX 3 mx_longest_wait (aC (s2 gIx (sU (sV 1)) (sK (.int 0))) (aC (s2 gIx (sU (sV 1)) (sK (.int 1))) (aC (s2 gIx (sU (sV 1)) (sK (.int 2))) aN))))) xN)
    (xRet (sCallX 3 mx_uses (aC (s2 gIx (sU (sV 1)) (sK (.int 0))) (aC (s2 gIx (sU (sV 1)) (sK (.int 1))) (aC (s2 gIx (sU (sV 1)) (sK (.int 2))) aN)))))))))))
def mx_law_called : MirX := mirX 2 bx_law_called
abbrev N_law_refused : List Str := ["_law_way", "_law_given", "_law_place", "_law_kind", "_law_caught", "error", "_law_some", "_law_at"]
abbrev s_law_refused : Stmt := top 58
theorem sc_law_refused : FnScope N_law_refused ["_law_way", "_law_given", "_law_place", "_law_kind"] (defScope s_law_refused) := ⟨rfl, rfl, rfl, by decide +kernel, rfl, by decide +kernel, by decide +kernel⟩
def law_refused_hb_1 : SS := (kSet 4 (sK .non))
def law_refused_hb_2 : SS := (xTry 5 4 ct_AgedReadsError (sCallX 2 mx_law_called (aC (sV 0) (aC (sV 1) aN))))
def law_refused_hb_3 : SS := (kSet 6 (sL gLst (aC (s1 (gIsX xi_InvalidNet) (sU (sV 4))) (aC (s1 (gIsX xi_InvalidPhases) (sU (sV 4))) (aC (s1 (gIsX xi_InvalidName) (sU (sV 4))) aN)))))
def law_refused_hb_4 : SS := (kSet 6 (s2 gAdd (sU (sV 6)) (sL gLst (aC (s1 (gIsX xi_InvalidPath) (sU (sV 4))) (aC (s1 (gIsX xi_InvalidNumber) (sU (sV 4))) aN)))))
def law_refused_hb_5 : SB := (bOr (sB (s2 gNe (sComp (iR (aC (sK (.int 5)) aN)) (.nm 7) (sB (sU (s2 gIx (sU (sV 6)) (sU (sV 7))))) (sU (sV 7))) (sL gLst (aC (sU (sV 3)) aN)))) (sB (s2 gNe (sL (gShow oNo) (aC (sU (s1 (gExV xvs) (sU (sV 4)))) aN)) (sL (gShow oNo) (aC (sU (s2 gIx (sU (sV 1)) (sU (sV 2)))) aN)))))
def law_refused_hb_6 : SS := (kRet (sK (.bl false)))
def law_refused_hb_7 : SE := (s2 gIx (sU (sV 1)) (sU (sV 2)))
def law_refused_hb_8 : SB := (sB (s1 (gIsTy2 3) (sU (s2 gIx (sU (sV 1)) (sU (sV 2))))))
def law_refused_hb_9 : SS := (kRet (s2 gEq (sL (gShow oNo) (aC (sU (s1 (gExV xvs) (sU (sV 4)))) aN)) (sL (gShow oNo) (aC (sU (s2 gIx (sU (sV 1)) (sU (sV 2)))) aN))))
abbrev law_refused_T (G : Gx) : TS :=
  (tSeq (vsQ G law_refused_hb_1)
  (tSeq (vsQ G law_refused_hb_2)
  (tSeq (vsQ G law_refused_hb_3)
  (tSeq (vsQ G law_refused_hb_4)
  (tSeq (tIfS (vbQ G law_refused_hb_5) (vsQ G law_refused_hb_6) tNext)
  (tSeq (tIfS (vbQ G law_refused_hb_8) (tAppS (vtQ G law_refused_hb_7) "more") tNext)
  (vsQ G law_refused_hb_9)))))))
abbrev N_law_way_right : List Str := ["_law_way", "_law_right", "_law_net", "_law_phases_here", "_law_path", "_law_kinds_here", "_law_place", "_law_at", "_law_given", "_law_later"]
abbrev s_law_way_right : Stmt := top 61
theorem sc_law_way_right : FnScope N_law_way_right ["_law_way", "_law_right", "_law_net", "_law_phases_here", "_law_path"] (defScope s_law_way_right) := ⟨rfl, rfl, rfl, by decide +kernel, rfl, by decide +kernel, by decide +kernel⟩
def law_way_right_hb_1 : SS := (kSet 5 (sCall 1 m_law_kinds (aC (sV 0) aN)))
def law_way_right_hb_2 : SI := (iR (aC (sL gLen (aC (sV 5) aN)) aN))
def law_way_right_hb_3 : SI := (iR (aC (sL gLen (aC (sCall 4 m_law_odd (aC (s2 gIx (sV 5) (sV 6)) (aC (sV 2) (aC (sV 3) (aC (sV 4) aN))))) aN)) aN))
def law_way_right_hb_4 : SS := (kOwnL 8 (sV 1))
def law_way_right_hb_5 : SS := (kPut 8 (sV 6) (s2 gIx (sCall 4 m_law_odd (aC (s2 gIx (sV 5) (sV 6)) (aC (sV 2) (aC (sV 3) (aC (sV 4) aN))))) (sV 7)))
def law_way_right_hb_6 : SA := (aC (sV 0) (aC (sLsM 8) (aC (sV 6) (aC (s2 gIx (sV 5) (sV 6)) aN))))
def law_way_right_hb_7 : SS := (kRet (sK (.bl false)))
def law_way_right_hb_8 : SS := (kPut 8 (sV 6) (s2 gIx (sCall 4 m_law_odd (aC (s2 gIx (sV 5) (sV 6)) (aC (sV 2) (aC (sV 3) (aC (sV 4) aN))))) (sV 7)))
def law_way_right_hb_9 : SS := (kFor (iR2 (aC (s2 gAdd (sV 6) (sK (.int 1))) (aC (sL gLen (aC (sV 5) aN)) aN))) (.nm 9)
    (kPut 8 (sV 9) (sK .non)))
def law_way_right_hb_10 : SA := (aC (sV 0) (aC (sV 8) (aC (sV 6) (aC (s2 gIx (sV 5) (sV 6)) aN))))
def law_way_right_hb_11 : SS := (kRet (sK (.bl false)))
def law_way_right_hb_12 : SS := (kRet (sK (.bl true)))
abbrev law_way_right_T (G : Gx) (sp_law_refused : Sp) : TS :=
  (tSeq (vsQ G law_way_right_hb_1)
  (tSeq (tForQ G law_way_right_hb_2 (.nm 6)
  (tForQ G law_way_right_hb_3 (.nm 7)
  (tSeq (vsQ G law_way_right_hb_4)
  (tSeq (vsQ G law_way_right_hb_5)
  (tSeq (tIfS (fun σ H Q => tCall sp_law_refused [] E0 (vaQ G law_way_right_hb_6) σ H fun x H1 => ∃ b, x = V.bl b ∧ Q (!b) H1) (vsQ G law_way_right_hb_7) tNext)
  (tSeq (vsQ G law_way_right_hb_8)
  (tSeq (vsQ G law_way_right_hb_9)
  (tIfS (fun σ H Q => tCall sp_law_refused [] E0 (vaQ G law_way_right_hb_10) σ H fun x H1 => ∃ b, x = V.bl b ∧ Q (!b) H1) (vsQ G law_way_right_hb_11) tNext))))))))
  (vsQ G law_way_right_hb_12)))
abbrev N_law : List Str := ["_law_script", "_law_purse_here", "_law_net", "_law_made_here", "_law_phases_here", "_law_path", "_law_run_here", "_law_rights", "_law_way"]
abbrev s_law : Stmt := top 62
theorem sc_law : FnScope N_law ["_law_script"] (defScope s_law) := ⟨rfl, rfl, rfl, by decide +kernel, rfl, by decide +kernel, by decide +kernel⟩
def hb_1 : SS := (kOwnC 1 2 m_law_purse (aC (sV 0) (aC (sK (.int 0)) aN)))
def hb_2 : SS := (kSet 2 (sL gTup (aC (sL gTup (aC (sK (.str "a")) (aC (sK (.int 4)) (aC (sK (.int 1)) (aC (sL gTup aN) aN))))) (aC (sL gTup (aC (sK (.str "b")) (aC (sK (.int 6)) (aC (sK (.int 0)) (aC (sL gTup (aC (sK (.str "a")) aN)) aN))))) (aC (sL gTup (aC (sK (.str "c")) (aC (sK (.int 3)) (aC (sK (.int 2)) (aC (sL gTup (aC (sK (.str "b")) (aC (sK (.str "c")) aN))) aN))))) aN)))))
def hb_3 : SS := (kTup [3, 4, 5] (sL gTup (aC (sCall 1 m_law_made (aC (sV 2) aN)) (aC (sCallM 2 m_law_phases 1 (aC (sV 2) aN)) (aC (sL gLst (aC (sK (.str "a")) (aC (sK (.str "b")) (aC (sK (.str "c")) (aC (sK (.str "c")) aN))))) aN)))))
def hb_4 : SS := (kSet 6 (sCallM 1 m_law_run 1 aN))
def hb_5 : SS := (kSet 7 (sL gLst (aC (sL gLst (aC (sV 3) (aC (sV 4) (aC (sK (.str "b")) (aC (sV 6) aN))))) (aC (sL gLst (aC (sV 3) (aC (sV 4) (aC (sK (.str "c")) (aC (sK (.str "b")) (aC (sV 6) aN)))))) aN))))
def hb_6 : SS := (kSet 7 (s2 gAdd (s2 gAdd (sV 7) (sComp (iR (aC (sK (.int 2)) aN)) (.nm 8) bYes (sL gLst (aC (sV 3) (aC (sV 4) (aC (sV 5) (aC (sV 6) aN))))))) (sComp (iR (aC (sK (.int 3)) aN)) (.nm 8) bYes (sL gLst (aC (sV 3) (aC (sV 4) (aC (sV 5) aN)))))))
def hb_7 : SI := (iR (aC (sK (.int 7)) aN))
def hb_8 : SS := (kDrop (sCall 2 m_law_called (aC (sV 8) (aC (s2 gIx (sV 7) (sV 8)) aN))))
def hb_9 : SA := (aC (sV 8) (aC (s2 gIx (sV 7) (sV 8)) (aC (sV 2) (aC (sV 4) (aC (sV 5) aN)))))
def hb_10 : SS := (kRet (sK (.bl false)))
def hb_11 : SA := (aC (sK (.int 1)) (aC (sL gLst (aC (sV 3) (aC (sV 4) (aC (sK (.str "b")) (aC (sK (.str "c")) (aC (sV 6) aN)))))) (aC (sK (.int 3)) (aC (sK (.int 2)) aN))))
def hb_12 : SS := (kRet (sK (.bl false)))
def hb_13 : SA := (aC (sK (.int 1)) (aC (sL gLst (aC (sV 3) (aC (sV 4) (aC (sK (.str "a")) (aC (sK (.str "a")) (aC (sV 6) aN)))))) (aC (sK (.int 3)) (aC (sK (.int 2)) aN))))
def hb_14 : SS := (kRet (sK (.bl false)))
def hb_15 : SA := (aC (sK (.int 4)) (aC (sL gLst (aC (sV 3) (aC (sV 4) (aC (sL gLst (aC (sK (.str "b")) (aC (sK (.str "a")) aN))) aN)))) (aC (sK (.int 2)) (aC (sK (.int 3)) aN))))
def hb_16 : SA := (aC (sK (.int 6)) (aC (sL gLst (aC (sV 3) (aC (sV 4) (aC (sL gLst (aC (sK (.str "a")) (aC (sK (.str "c")) aN))) aN)))) (aC (sK (.int 2)) (aC (sK (.int 3)) aN))))
abbrev lawT (G : Gx) (sp_law_way_right : Sp) (sp_law_refused : Sp) : TS :=
  (tSeq (vsQ G hb_1)
  (tSeq (vsQ G hb_2)
  (tSeq (vsQ G hb_3)
  (tSeq (vsQ G hb_4)
  (tSeq (vsQ G hb_5)
  (tSeq (vsQ G hb_6)
  (tSeq (tForQ G hb_7 (.nm 8)
  (tSeq (vsQ G hb_8)
  (tIfS (fun σ H Q => tCall sp_law_way_right [] E0 (vaQ G hb_9) σ H fun x H1 => ∃ b, x = V.bl b ∧ Q (!b) H1) (vsQ G hb_10) tNext)))
  (tSeq (tIfS (fun σ H Q => tCall sp_law_refused [] E0 (vaQ G hb_11) σ H fun x H1 => ∃ b, x = V.bl b ∧ Q (!b) H1) (vsQ G hb_12) tNext)
  (tSeq (tIfS (fun σ H Q => tCall sp_law_refused [] E0 (vaQ G hb_13) σ H fun x H1 => ∃ b, x = V.bl b ∧ Q (!b) H1) (vsQ G hb_14) tNext)
  (tRet (tAndV (tCall sp_law_refused [] E0 (vaQ G hb_15)) (tCall sp_law_refused [] E0 (vaQ G hb_16)))))))))))))
def LawOk (G : Gx) (sp_law_way_right : Sp) (sp_law_refused : Sp) : Prop := ∀ (us : List V) (H : Hp) (Q : VK) (E : XK), spLaw G us H Q E → lawT G sp_law_way_right sp_law_refused { nx := fun _ H1 => Q .non H1, rt := Q } (L2.start N_law us) H
abbrev s_InvalidName_init : Stmt := inClass (top 6) 0
theorem sb_InvalidName : SupShape s_InvalidName_init := ⟨⟨_, _, _, _, _, _, _, _, _, _, rfl, by decide +kernel⟩, ⟨_, rfl, rfl⟩, by decide +kernel, by decide +kernel, by decide +kernel, by decide +kernel, by decide +kernel, rfl, rfl, rfl⟩
theorem kp_InvalidName (a v : Value) : SupBinds s_InvalidName_init "InvalidName.__init__" ⟨[a, v], []⟩ [("self", a), ("value", v)] := fun T cc kV doc pm ct cdv an => ⟨_, rfl, rfl⟩
theorem kk_InvalidName (a v : Value) : SupBinds s_InvalidName_init "InvalidName.__init__" ⟨[a], [("value", v)]⟩ [("self", a), ("value", v)] := fun T cc kV doc pm ct cdv an => ⟨_, rfl, rfl⟩
theorem kn_InvalidName (a : Value) : SupBinds s_InvalidName_init "InvalidName.__init__" ⟨[a], []⟩ [("self", a), ("value", .none)] := fun T cc kV doc pm ct cdv an => ⟨_, rfl, rfl⟩
abbrev s_InvalidNet_init : Stmt := inClass (top 3) 0
theorem sb_InvalidNet : SupShape s_InvalidNet_init := ⟨⟨_, _, _, _, _, _, _, _, _, _, rfl, by decide +kernel⟩, ⟨_, rfl, rfl⟩, by decide +kernel, by decide +kernel, by decide +kernel, by decide +kernel, by decide +kernel, rfl, rfl, rfl⟩
theorem kp_InvalidNet (a v : Value) : SupBinds s_InvalidNet_init "InvalidNet.__init__" ⟨[a, v], []⟩ [("self", a), ("value", v)] := fun T cc kV doc pm ct cdv an => ⟨_, rfl, rfl⟩
theorem kk_InvalidNet (a v : Value) : SupBinds s_InvalidNet_init "InvalidNet.__init__" ⟨[a], [("value", v)]⟩ [("self", a), ("value", v)] := fun T cc kV doc pm ct cdv an => ⟨_, rfl, rfl⟩
theorem kn_InvalidNet (a : Value) : SupBinds s_InvalidNet_init "InvalidNet.__init__" ⟨[a], []⟩ [("self", a), ("value", .none)] := fun T cc kV doc pm ct cdv an => ⟨_, rfl, rfl⟩
abbrev s_InvalidNumber_init : Stmt := inClass (top 7) 0
theorem sb_InvalidNumber : SupShape s_InvalidNumber_init := ⟨⟨_, _, _, _, _, _, _, _, _, _, rfl, by decide +kernel⟩, ⟨_, rfl, rfl⟩, by decide +kernel, by decide +kernel, by decide +kernel, by decide +kernel, by decide +kernel, rfl, rfl, rfl⟩
theorem kp_InvalidNumber (a v : Value) : SupBinds s_InvalidNumber_init "InvalidNumber.__init__" ⟨[a, v], []⟩ [("self", a), ("value", v)] := fun T cc kV doc pm ct cdv an => ⟨_, rfl, rfl⟩
theorem kk_InvalidNumber (a v : Value) : SupBinds s_InvalidNumber_init "InvalidNumber.__init__" ⟨[a], [("value", v)]⟩ [("self", a), ("value", v)] := fun T cc kV doc pm ct cdv an => ⟨_, rfl, rfl⟩
theorem kn_InvalidNumber (a : Value) : SupBinds s_InvalidNumber_init "InvalidNumber.__init__" ⟨[a], []⟩ [("self", a), ("value", .none)] := fun T cc kV doc pm ct cdv an => ⟨_, rfl, rfl⟩
abbrev s_InvalidPath_init : Stmt := inClass (top 5) 0
theorem sb_InvalidPath : SupShape s_InvalidPath_init := ⟨⟨_, _, _, _, _, _, _, _, _, _, rfl, by decide +kernel⟩, ⟨_, rfl, rfl⟩, by decide +kernel, by decide +kernel, by decide +kernel, by decide +kernel, by decide +kernel, rfl, rfl, rfl⟩
theorem kp_InvalidPath (a v : Value) : SupBinds s_InvalidPath_init "InvalidPath.__init__" ⟨[a, v], []⟩ [("self", a), ("value", v)] := fun T cc kV doc pm ct cdv an => ⟨_, rfl, rfl⟩
theorem kk_InvalidPath (a v : Value) : SupBinds s_InvalidPath_init "InvalidPath.__init__" ⟨[a], [("value", v)]⟩ [("self", a), ("value", v)] := fun T cc kV doc pm ct cdv an => ⟨_, rfl, rfl⟩
theorem kn_InvalidPath (a : Value) : SupBinds s_InvalidPath_init "InvalidPath.__init__" ⟨[a], []⟩ [("self", a), ("value", .none)] := fun T cc kV doc pm ct cdv an => ⟨_, rfl, rfl⟩
abbrev s_InvalidPhases_init : Stmt := inClass (top 4) 0
theorem sb_InvalidPhases : SupShape s_InvalidPhases_init := ⟨⟨_, _, _, _, _, _, _, _, _, _, rfl, by decide +kernel⟩, ⟨_, rfl, rfl⟩, by decide +kernel, by decide +kernel, by decide +kernel, by decide +kernel, by decide +kernel, rfl, rfl, rfl⟩
theorem kp_InvalidPhases (a v : Value) : SupBinds s_InvalidPhases_init "InvalidPhases.__init__" ⟨[a, v], []⟩ [("self", a), ("value", v)] := fun T cc kV doc pm ct cdv an => ⟨_, rfl, rfl⟩
theorem kk_InvalidPhases (a v : Value) : SupBinds s_InvalidPhases_init "InvalidPhases.__init__" ⟨[a], [("value", v)]⟩ [("self", a), ("value", v)] := fun T cc kV doc pm ct cdv an => ⟨_, rfl, rfl⟩
theorem kn_InvalidPhases (a : Value) : SupBinds s_InvalidPhases_init "InvalidPhases.__init__" ⟨[a], []⟩ [("self", a), ("value", .none)] := fun T cc kV doc pm ct cdv an => ⟨_, rfl, rfl⟩
section
variable {G : Gx}
theorem ok_law_purse (T : Txt G G.mg) {f : Addr} {fd : FuncData} (F : Fun G.K "_law_purse" "_law_purse" s_law_purse f fd)  : FnOk G.P G.w G.K G.mg G.base CX0 1 f fd ["_law_script", "_law_at"] (spM G 2 m_law_purse) :=
  fn_okM F sc_law_purse fun c cdv A outer sh H E hG hr => by
    subst hG
    exact (vs_cons (vs_set (i := 2) sc_law_purse.nd ve_int)
    (vs_cons (vs_if (vt_cmp od_lt (ve_var (pv 1)) (ve_callB (ca_len rfl) T.n_len bt_len (va_cons (ve_var (pv 0)) va_nil)))
    (vs_one (vs_set (i := 2) sc_law_purse.nd (ve_ix rfl (ve_var (pv 0)) (ve_var (pv 1))))) vs_nil)
    (vs_one (vs_retL (va_cons (ve_op od_mod (ve_callT ca_int T.n_int bt_int (va_cons (ve_callB (ca_max rfl) T.n_max bt_max (va_cons (ve_op od_sub (ve_var (pv 2)) (ve_op od_pow ve_int ve_int)) (va_cons ve_int va_nil))) va_nil)) (ve_op od_pow (ve_op od_pow ve_int ve_int) ve_int)) (va_cons (ve_op od_mod (ve_callT ca_int T.n_int bt_int (va_cons (ve_var (pv 2)) va_nil)) ve_int) (va_cons ve_int va_nil)))))))
theorem ok_is_name (T : Txt G G.mg) {f : Addr} {fd : FuncData} (F : Fun G.K "is_name" "is_name" s_is_name f fd)  : FnOk G.P G.w G.K G.mg G.base CX0 1 f fd ["value"] (spV G 1 m_is_name) :=
  fn_ok F sc_is_name fun c cdv A outer sh H E hG hr => by
    subst hG
    exact (vs_cons (vs_if (PW.pt (vw_or (vt_not (vt_val (ve_isTy2 2 (by decide) T.n_isinstance (ve_var (pv 0)) T.n_str bt_ty2))) (pw_or1 (vt_not (vt_chain od_le od_le ve_int (ve_callB (ca_len rfl) T.n_len bt_len (va_cons (ve_var (pv 0)) va_nil)) ve_int)))))
    (vs_one (vs_ret ve_bl)) vs_nil)
    (vs_one (vs_ret (ve_cmp (od_eqL hr.units) (ve_lc (own := [("letter", 1)]) (.nm 1) rfl sc_is_name.nd (vi_str (ve_var (pv 0))) (blkOk_by (N := N_is_name) (sc := defScope s_is_name) (by decide +kernel)) rfl (fun _ _ _ _ _ => (pg_name (i := 1) sc_is_name.nd rfl (Or.inl rfl))) (fun _ _ _ _ _ _ _ _ => (vts_one (vt_cmp od_notin (ve_var (pv 1)) (ve_glob T.g_LETTERS)))) (fun _ _ _ _ _ _ _ _ => (ve_var (pv 1)))) (ve_lst va_nil)))))
theorem ok_is_whole (T : Txt G G.mg) {f : Addr} {fd : FuncData} (F : Fun G.K "is_whole" "is_whole" s_is_whole f fd)  : FnOk G.P G.w G.K G.mg G.base CX0 1 f fd ["value"] (spV G 1 m_is_whole) :=
  fn_ok F sc_is_whole fun c cdv A outer sh H E hG hr => by
    subst hG
    exact (vs_one (vs_ret (ve_and (ve_isTy2 1 (by decide) T.n_isinstance (ve_var (pv 0)) T.n_int bt_ty1) (ve_one (ve_not (ve_isTy2 0 (by decide) T.n_isinstance (ve_var (pv 0)) T.n_bool bt_ty0))))))
theorem ok_are_names (T : Txt G G.mg) {f : Addr} {fd : FuncData} (F : Fun G.K "are_names" "are_names" s_are_names f fd) (C_is_name : Cal G.P G.w G G.mg G.base "is_name" 1 1 m_is_name) : FnOk G.P G.w G.K G.mg G.base CX0 2 f fd ["value"] (spV G 1 m_are_names) :=
  fn_ok F sc_are_names fun c cdv A outer sh H E hG hr => by
    subst hG
    exact (vs_cons (vs_if (PW.pt (vw_or (vt_not (vt_val (ve_isTy2 3 (by decide) T.n_isinstance (ve_var (pv 0)) T.n_list bt_ty3))) (pw_or1 (vt_cmp (od_ne hr.units) (ve_lc (own := [("one", 1)]) (.nm 1) rfl sc_are_names.nd (vi_list (ve_var (pv 0))) (blkOk_by (N := N_are_names) (sc := defScope s_are_names) (by decide +kernel)) rfl (fun _ _ _ _ _ => (pg_name (i := 1) sc_are_names.nd rfl (Or.inl rfl))) (fun _ _ _ _ _ _ _ _ => (vts_one (vt_not (vt_val (ve_call C_is_name rfl (hr.mono (by decide)) (va_cons (ve_var (pv 1)) va_nil)))))) (fun _ _ _ _ _ _ _ _ => (ve_var (pv 1)))) (ve_lst va_nil)))))
    (vs_one (vs_ret ve_bl)) vs_nil)
    (vs_one (vs_ret (ve_cmp (od_eq hr.units) (ve_lenSet rfl T.n_len T.n_set (ve_var (pv 0))) (ve_callB (ca_len rfl) T.n_len bt_len (va_cons (ve_var (pv 0)) va_nil))))))
theorem ok_Step_init (T : Txt G G.mg) {f : Addr} {fd : FuncData} (F : Fun G.K "__init__" "Step.__init__" s_Step_init f fd) (C_is_name : Cal G.P G.w G G.mg G.base "is_name" 1 1 m_is_name) (C_is_whole : Cal G.P G.w G G.mg G.base "is_whole" 1 1 m_is_whole) (C_are_names : Cal G.P G.w G G.mg G.base "are_names" 2 1 m_are_names) : FnOk G.P G.w G.K G.mg G.base CX0 3 f fd ["self", "name", "period", "delay", "reads"] (spV G 5 m_Step_init) :=
  fn_ok F sc_Step_init fun c cdv A outer sh H E hG hr => by
    subst hG
    exact (vs_cons (vs_if (PW.pt (vw_or (vt_not (vt_val (ve_call C_is_name rfl (hr.mono (by decide)) (va_cons (ve_var (pv 1)) va_nil)))) (vw_or (vt_not (vt_val (ve_call C_is_whole rfl (hr.mono (by decide)) (va_cons (ve_var (pv 2)) va_nil)))) (vw_or (vt_not (vt_val (ve_call C_is_whole rfl (hr.mono (by decide)) (va_cons (ve_var (pv 3)) va_nil)))) (pw_or1 (vt_not (vt_val (ve_call C_are_names rfl (hr.mono (by decide)) (va_cons (ve_var (pv 4)) va_nil)))))))))
    (vs_one vs_never) vs_nil)
    (vs_cons (vs_if (PW.pt (vw_or (vt_cmp od_lt (ve_var (pv 2)) ve_int) (pw_or1 (vt_cmp od_lt (ve_var (pv 3)) ve_int))))
    (vs_one vs_never) vs_nil)
    (vs_cons (vs_self 0 0 (pv 0) (ve_var (pv 1)) T.c0.cl T.a0_label T.l0_label)
    (vs_cons (vs_self 0 1 (pv 0) (ve_var (pv 2)) T.c0.cl T.a0_turn T.l0_turn)
    (vs_cons (vs_self 0 2 (pv 0) (ve_var (pv 3)) T.c0.cl T.a0_lag T.l0_lag)
    (vs_one (vs_self 0 3 (pv 0) (ve_callT ca_tuple T.n_tuple bt_tuple (va_cons (ve_var (pv 4)) va_nil)) T.c0.cl T.a0_sources T.l0_sources)))))))
theorem ok_are_steps (T : Txt G G.mg) {f : Addr} {fd : FuncData} (F : Fun G.K "are_steps" "are_steps" s_are_steps f fd) (C_are_names : Cal G.P G.w G G.mg G.base "are_names" 2 1 m_are_names) : FnOk G.P G.w G.K G.mg G.base CX0 3 f fd ["value"] (spV G 1 m_are_steps) :=
  fn_ok F sc_are_steps fun c cdv A outer sh H E hG hr => by
    subst hG
    exact (vs_cons (vs_if (PW.pt (vw_or (vt_not (vt_val (ve_isTy2 3 (by decide) T.n_isinstance (ve_var (pv 0)) T.n_list bt_ty3))) (vw_or (vt_cmp (od_eqL hr.units) (ve_var (pv 0)) (ve_lst va_nil)) (pw_or1 (vt_cmp (od_ne hr.units) (ve_lc (own := [("one", 3)]) (.nm 3) rfl sc_are_steps.nd (vi_list (ve_var (pv 0))) (blkOk_by (N := N_are_steps) (sc := defScope s_are_steps) (by decide +kernel)) rfl (fun _ _ _ _ _ => (pg_name (i := 3) sc_are_steps.nd rfl (Or.inl rfl))) (fun _ _ _ _ _ _ _ _ => (vts_one (vt_not (vt_val (ve_isCX 0 T.n_isinstance (ve_var (pv 3)) T.g0 T.c0 T.nbi0))))) (fun _ _ _ _ _ _ _ _ => (ve_var (pv 3)))) (ve_lst va_nil))))))
    (vs_one (vs_ret ve_bl)) vs_nil)
    (vs_cons (vs_set (i := 1) sc_are_steps.nd (ve_lc (own := [("step", 2)]) (.nm 2) rfl sc_are_steps.nd (vi_list (ve_var (pv 0))) (blkOk_by (N := N_are_steps) (sc := defScope s_are_steps) (by decide +kernel)) rfl (fun _ _ _ _ _ => (pg_name (i := 2) sc_are_steps.nd rfl (Or.inl rfl))) (fun _ _ _ _ _ _ _ _ => vts_nil) (fun _ _ _ _ _ _ _ _ => (ve_fld 0 0 (ve_var (pv 2)) T.c0.cl T.a0_label T.l0_label))))
    (vs_cons (vs_if (vt_not (vt_val (ve_call C_are_names rfl (hr.mono (by decide)) (va_cons (ve_var (pv 1)) va_nil))))
    (vs_one (vs_ret ve_bl)) vs_nil)
    (vs_cons (vs_for (t := (.nm 2)) PassesOwn.never rfl (vi_list (ve_var (pv 0))) (pg_name (i := 2) sc_are_steps.nd rfl (Or.inl rfl))
    (vs_one (vs_if (vt_cmp (od_ne hr.units) (ve_lc (own := [("name", 4)]) (.nm 4) rfl sc_are_steps.nd (vi_tup (ve_fld 0 3 (ve_var (pv 2)) T.c0.cl T.a0_sources T.l0_sources)) (blkOk_by (N := N_are_steps) (sc := defScope s_are_steps) (by decide +kernel)) rfl (fun _ _ _ _ _ => (pg_name (i := 4) sc_are_steps.nd rfl (Or.inl rfl))) (fun _ _ _ _ _ _ _ _ => (vts_one (vt_cmp od_notin (ve_var (pv 4)) (ve_var (pv 1))))) (fun _ _ _ _ _ _ _ _ => (ve_var (pv 4)))) (ve_lst va_nil))
    (vs_one (vs_ret ve_bl)) vs_nil)))
    (vs_one (vs_ret ve_bl))))))
theorem ok_Net_init (T : Txt G G.mg) {f : Addr} {fd : FuncData} (F : Fun G.K "__init__" "Net.__init__" s_Net_init f fd) (C_are_steps : Cal G.P G.w G G.mg G.base "are_steps" 3 1 m_are_steps) : FnOk G.P G.w G.K G.mg G.base CX0 4 f fd ["self", "steps"] (spV G 2 m_Net_init) :=
  fn_ok F sc_Net_init fun c cdv A outer sh H E hG hr => by
    subst hG
    exact (vs_cons (vs_if (vt_not (vt_val (ve_call C_are_steps rfl (hr.mono (by decide)) (va_cons (ve_var (pv 1)) va_nil))))
    (vs_one vs_never) vs_nil)
    (vs_one (vs_self 1 0 (pv 0) (ve_callT ca_tuple T.n_tuple bt_tuple (va_cons (ve_var (pv 1)) va_nil)) T.c1.cl T.a1_nodes T.l1_nodes)))
theorem ok_law_made (T : Txt G G.mg) {f : Addr} {fd : FuncData} (F : Fun G.K "_law_made" "_law_made" s_law_made f fd) (C_Step : CalC G.P G.w G G.mg G.base "Step" 3 5 0 m_Step_init) (C_Net : CalC G.P G.w G G.mg G.base "Net" 4 2 1 m_Net_init) : FnOk G.P G.w G.K G.mg G.base CX0 6 f fd ["_law_net"] (spV G 1 m_law_made) :=
  fn_ok F sc_law_made fun c cdv A outer sh H E hG hr => by
    subst hG
    exact (vs_one (vs_ret (ve_make C_Net T.nf1 rfl (hr.mono (by decide)) (va_cons (ve_lc (own := [("_law_name", 1), ("_law_period", 2), ("_law_delay", 3), ("_law_reads", 4)]) (.tp [1, 2, 3, 4]) rfl sc_law_made.nd (vi_tup (ve_var (pv 0))) (blkOk_by (N := N_law_made) (sc := defScope s_law_made) (by decide +kernel)) rfl (fun _ _ _ _ _ => (pg_tup rfl (pgs_cons (pg_name (i := 1) sc_law_made.nd rfl (Or.inl rfl)) (pgs_cons (pg_name (i := 2) sc_law_made.nd rfl (Or.inl rfl)) (pgs_cons (pg_name (i := 3) sc_law_made.nd rfl (Or.inl rfl)) (pgs_cons (pg_name (i := 4) sc_law_made.nd rfl (Or.inl rfl)) pgs_nil)))))) (fun _ _ _ _ _ _ _ _ => vts_nil) (fun _ _ _ _ _ _ _ _ => (ve_make C_Step T.nf0 rfl (hr.mono (by decide)) (va_cons (ve_var (pv 1)) (va_cons (ve_var (pv 2)) (va_cons (ve_var (pv 3)) (va_cons (ve_callT ca_list T.n_list bt_list (va_cons (ve_var (pv 4)) va_nil)) va_nil))))))) va_nil))))
theorem ok_law_draw (T : Txt G G.mg) {f : Addr} {fd : FuncData} (F : Fun G.K "_law_draw" "_law_draw" s_law_draw f fd)  : FnOk G.P G.w G.K G.mg G.base CX0 1 f fd ["_law_purse_here", "_law_many"] (spV G 2 m_law_draw) :=
  fn_ok F sc_law_draw fun c cdv A outer sh H E hG hr => by
    subst hG
    exact (vs_cons (vs_if (vt_cmp od_gt (ve_ixM (pv 0) ve_int) ve_int)
    (vs_cons (vs_set (i := 2) sc_law_draw.nd (ve_op od_mod (ve_callT ca_int T.n_int bt_int (va_cons (ve_ixM (pv 0) ve_int) va_nil)) (ve_var (pv 1))))
    (vs_cons (vs_put (pv 0) ve_int (ve_op od_fdiv (ve_ixM (pv 0) ve_int) (ve_var (pv 1))))
    (vs_one (vs_ret (ve_var (pv 2)))))) vs_nil)
    (vs_cons (vs_set (i := 3) sc_law_draw.nd (ve_op od_add (ve_ixM (pv 0) ve_int) ve_int))
    (vs_cons (vs_put (pv 0) ve_int (ve_var (pv 3)))
    (vs_cons (vs_set (i := 4) sc_law_draw.nd (ve_op od_mod (ve_callT ca_int T.n_int bt_int (va_cons (ve_op od_mul (ve_op od_add (ve_ixM (pv 0) ve_int) (ve_op od_mul ve_int (ve_var (pv 3)))) (ve_op od_add (ve_op od_mul (ve_var (pv 3)) (ve_var (pv 3))) ve_int)) va_nil)) ve_int))
    (vs_cons (vs_set (i := 4) sc_law_draw.nd (ve_op od_mod (ve_callT ca_int T.n_int bt_int (va_cons (ve_op od_add (ve_op od_mul (ve_var (pv 4)) (ve_var (pv 4))) (ve_var (pv 3))) va_nil)) ve_int))
    (vs_one (vs_ret (ve_op od_mod (ve_op od_fdiv (ve_op od_mod (ve_callT ca_int T.n_int bt_int (va_cons (ve_op od_mul (ve_var (pv 4)) ve_int) va_nil)) ve_int) ve_int) (ve_var (pv 1))))))))))
theorem ok_law_pick (T : Txt G G.mg) {f : Addr} {fd : FuncData} (F : Fun G.K "_law_pick" "_law_pick" s_law_pick f fd) (C__law_draw : Cal G.P G.w G G.mg G.base "_law_draw" 1 2 m_law_draw) : FnOk G.P G.w G.K G.mg G.base CX0 2 f fd ["_law_purse_here", "_law_items"] (spV G 2 m_law_pick) :=
  fn_ok F sc_law_pick fun c cdv A outer sh H E hG hr => by
    subst hG
    exact (vs_one (vs_ret (ve_ix rfl (ve_var (pv 1)) (ve_callM C__law_draw rfl (hr.mono (by decide)) (pv 0) (va_cons (ve_callB (ca_len rfl) T.n_len bt_len (va_cons (ve_var (pv 1)) va_nil)) va_nil)))))
theorem ok_law_phases (T : Txt G G.mg) {f : Addr} {fd : FuncData} (F : Fun G.K "_law_phases" "_law_phases" s_law_phases f fd) (C__law_pick : Cal G.P G.w G G.mg G.base "_law_pick" 2 2 m_law_pick) (C__law_draw : Cal G.P G.w G G.mg G.base "_law_draw" 1 2 m_law_draw) : FnOk G.P G.w G.K G.mg G.base CX0 3 f fd ["_law_purse_here", "_law_net"] (spV G 2 m_law_phases) :=
  fn_ok F sc_law_phases fun c cdv A outer sh H E hG hr => by
    subst hG
    exact (vs_cons (vs_parL (i := 2) (j := 3) rfl sc_law_phases.nd va_nil (fun _ _ _ => (ve_callM C__law_pick rfl (hr.mono (by decide)) (pv 0) (va_cons (ve_lst (va_cons ve_int (va_cons ve_int (va_cons ve_int (va_cons ve_int (va_cons ve_int (va_cons ve_int (va_cons ve_int va_nil)))))))) va_nil))) rfl)
    (vs_cons (vs_for (t := (.tp [4, 5, 6, 7])) PassesOwn.never rfl (vi_tup (ve_var (pv 1))) (pg_tup rfl (pgs_cons (pg_name (i := 4) sc_law_phases.nd rfl (Or.inl rfl)) (pgs_cons (pg_name (i := 5) sc_law_phases.nd rfl (Or.inl rfl)) (pgs_cons (pg_name (i := 6) sc_law_phases.nd rfl (Or.inl rfl)) (pgs_cons (pg_name (i := 7) sc_law_phases.nd rfl (Or.inl rfl)) pgs_nil)))))
    (vs_cons (vs_set (i := 8) sc_law_phases.nd (ve_op od_sub (ve_callM C__law_draw rfl (hr.mono (by decide)) (pv 0) (va_cons (ve_op od_mul (ve_op od_mul ve_int (ve_var (pv 5))) (ve_var (pv 3))) va_nil)) (ve_callM C__law_pick rfl (hr.mono (by decide)) (pv 0) (va_cons (ve_lst (va_cons ve_int (va_cons ve_int (va_cons (ve_op od_mul (ve_var (pv 5)) (ve_var (pv 3))) va_nil)))) va_nil))))
    (vs_cons (vs_app (pv 2) (ve_tup (va_cons (ve_var (pv 8)) (va_cons (ve_var (pv 3)) va_nil))))
    (vs_cons (vs_if (vt_cmp (od_eq hr.units) (ve_callM C__law_draw rfl (hr.mono (by decide)) (pv 0) (va_cons ve_int va_nil)) ve_int)
    (vs_one (vs_put (pv 2) (ve_neg ve_int) (ve_tup (va_cons (ve_callM C__law_draw rfl (hr.mono (by decide)) (pv 0) (va_cons (ve_op od_mul ve_int (ve_var (pv 5))) va_nil)) (va_cons ve_int va_nil))))) vs_nil)
    (vs_one (vs_if (vt_cmp (od_eq hr.units) (ve_callM C__law_draw rfl (hr.mono (by decide)) (pv 0) (va_cons ve_int va_nil)) ve_int)
    (vs_one (vs_put (pv 2) (ve_neg ve_int) (ve_tup (va_cons (ve_op od_mul (ve_ix rfl (ve_ixM (pv 2) (ve_neg ve_int)) ve_int) ve_int) (va_cons (ve_op od_mul (ve_ix rfl (ve_ixM (pv 2) (ve_neg ve_int)) ve_int) ve_int) va_nil))))) vs_nil))))))
    (vs_one (vs_ret (ve_callT ca_tuple T.n_tuple bt_tuple (va_cons (ve_var (pv 2)) va_nil))))))
theorem ok_law_run (T : Txt G G.mg) {f : Addr} {fd : FuncData} (F : Fun G.K "_law_run" "_law_run" s_law_run f fd) (C__law_draw : Cal G.P G.w G G.mg G.base "_law_draw" 1 2 m_law_draw) (C__law_pick : Cal G.P G.w G G.mg G.base "_law_pick" 2 2 m_law_pick) : FnOk G.P G.w G.K G.mg G.base CX0 3 f fd ["_law_purse_here"] (spV G 1 m_law_run) :=
  fn_ok F sc_law_run fun c cdv A outer sh H E hG hr => by
    subst hG
    exact (vs_cons (vs_set (i := 1) sc_law_run.nd (ve_callM C__law_draw rfl (hr.mono (by decide)) (pv 0) (va_cons ve_int va_nil)))
    (vs_cons (vs_for (t := (.nm 2)) PassesOwn.never rfl (vi_range1 T.n_range (va_cons (ve_callM C__law_pick rfl (hr.mono (by decide)) (pv 0) (va_cons (ve_lst (va_cons ve_int (va_cons ve_int (va_cons ve_int (va_cons ve_int (va_cons ve_int va_nil)))))) va_nil)) va_nil)) (pg_name (i := 2) sc_law_run.nd rfl (Or.inl rfl))
    (vs_one (vs_set (i := 1) sc_law_run.nd (ve_op od_add (ve_op od_mul (ve_var (pv 1)) ve_int) (ve_callM C__law_draw rfl (hr.mono (by decide)) (pv 0) (va_cons ve_int va_nil))))))
    (vs_one (vs_ret (ve_op od_sub (ve_var (pv 1)) (ve_callM C__law_pick rfl (hr.mono (by decide)) (pv 0) (va_cons (ve_lst (va_cons ve_int (va_cons (ve_op od_mul ve_int (ve_var (pv 1))) va_nil))) va_nil)))))))
theorem ok_check_net (T : Txt G G.mg) {f : Addr} {fd : FuncData} (F : Fun G.K "check_net" "check_net" s_check_net f fd)  : FnOk G.P G.w G.K G.mg G.base CX0 1 f fd ["value"] (spV G 1 m_check_net) :=
  fn_ok F sc_check_net fun c cdv A outer sh H E hG hr => by
    subst hG
    exact (vs_one (vs_if (vt_not (vt_val (ve_isCX 1 T.n_isinstance (ve_var (pv 0)) T.g1 T.c1 T.nbi1)))
    (vs_one vs_never) vs_nil))
theorem ok_is_fraction (T : Txt G G.mg) {f : Addr} {fd : FuncData} (F : Fun G.K "is_fraction" "is_fraction" s_is_fraction f fd) (C_is_whole : Cal G.P G.w G G.mg G.base "is_whole" 1 1 m_is_whole) : FnOk G.P G.w G.K G.mg G.base CX0 2 f fd ["value"] (spV G 1 m_is_fraction) :=
  fn_ok F sc_is_fraction fun c cdv A outer sh H E hG hr => by
    subst hG
    exact (vs_cons (vs_if (PW.pt (vw_or (vt_not (vt_val (ve_isTy2 4 (by decide) T.n_isinstance (ve_var (pv 0)) T.n_tuple bt_ty4))) (vw_or (vt_cmp (od_ne hr.units) (ve_callB (ca_len rfl) T.n_len bt_len (va_cons (ve_var (pv 0)) va_nil)) ve_int) (pw_or1 (vt_cmp (od_ne hr.units) (ve_lc (own := [("one", 1)]) (.nm 1) rfl sc_is_fraction.nd (vi_tup (ve_var (pv 0))) (blkOk_by (N := N_is_fraction) (sc := defScope s_is_fraction) (by decide +kernel)) rfl (fun _ _ _ _ _ => (pg_name (i := 1) sc_is_fraction.nd rfl (Or.inl rfl))) (fun _ _ _ _ _ _ _ _ => (vts_one (vt_not (vt_val (ve_call C_is_whole rfl (hr.mono (by decide)) (va_cons (ve_var (pv 1)) va_nil)))))) (fun _ _ _ _ _ _ _ _ => (ve_var (pv 1)))) (ve_lst va_nil))))))
    (vs_one (vs_ret ve_bl)) vs_nil)
    (vs_one (vs_ret (ve_cmp od_ge (ve_ix rfl (ve_var (pv 0)) ve_int) ve_int))))
theorem ok_check_phases (T : Txt G G.mg) {f : Addr} {fd : FuncData} (F : Fun G.K "check_phases" "check_phases" s_check_phases f fd) (C_is_fraction : Cal G.P G.w G G.mg G.base "is_fraction" 2 1 m_is_fraction) : FnOk G.P G.w G.K G.mg G.base CX0 3 f fd ["net", "value"] (spV G 2 m_check_phases) :=
  fn_ok F sc_check_phases fun c cdv A outer sh H E hG hr => by
    subst hG
    exact (vs_cons (vs_if (PW.pt (vw_or (vt_not (vt_val (ve_isTy2 4 (by decide) T.n_isinstance (ve_var (pv 1)) T.n_tuple bt_ty4))) (pw_or1 (vt_cmp (od_ne hr.units) (ve_callB (ca_len rfl) T.n_len bt_len (va_cons (ve_var (pv 1)) va_nil)) (ve_callB (ca_len rfl) T.n_len bt_len (va_cons (ve_fld 1 0 (ve_var (pv 0)) T.c1.cl T.a1_nodes T.l1_nodes) va_nil))))))
    (vs_one vs_never) vs_nil)
    (vs_one (vs_if (vt_cmp (od_ne hr.units) (ve_lc (own := [("one", 2)]) (.nm 2) rfl sc_check_phases.nd (vi_tup (ve_var (pv 1))) (blkOk_by (N := N_check_phases) (sc := defScope s_check_phases) (by decide +kernel)) rfl (fun _ _ _ _ _ => (pg_name (i := 2) sc_check_phases.nd rfl (Or.inl rfl))) (fun _ _ _ _ _ _ _ _ => (vts_one (vt_not (vt_val (ve_call C_is_fraction rfl (hr.mono (by decide)) (va_cons (ve_var (pv 2)) va_nil)))))) (fun _ _ _ _ _ _ _ _ => (ve_var (pv 2)))) (ve_lst va_nil))
    (vs_one vs_never) vs_nil)))
theorem ok_check_net_and_phases (T : Txt G G.mg) {f : Addr} {fd : FuncData} (F : Fun G.K "check_net_and_phases" "check_net_and_phases" s_check_net_and_phases f fd) (C_check_net : Cal G.P G.w G G.mg G.base "check_net" 1 1 m_check_net) (C_check_phases : Cal G.P G.w G G.mg G.base "check_phases" 3 2 m_check_phases) : FnOk G.P G.w G.K G.mg G.base CX0 4 f fd ["net", "phases"] (spV G 2 m_check_net_and_phases) :=
  fn_ok F sc_check_net_and_phases fun c cdv A outer sh H E hG hr => by
    subst hG
    exact (vs_cons (vs_drop (ve_call C_check_net rfl (hr.mono (by decide)) (va_cons (ve_var (pv 0)) va_nil)))
    (vs_one (vs_drop (ve_call C_check_phases rfl (hr.mono (by decide)) (va_cons (ve_var (pv 0)) (va_cons (ve_var (pv 1)) va_nil))))))
theorem ok_place_of (T : Txt G G.mg) {f : Addr} {fd : FuncData} (F : Fun G.K "place_of" "place_of" s_place_of f fd)  : FnOk G.P G.w G.K G.mg G.base CX0 1 f fd ["net", "name"] (spV G 2 m_place_of) :=
  fn_ok F sc_place_of fun c cdv A outer sh H E hG hr => by
    subst hG
    exact (vs_cons (vs_if (vt_not (vt_val (ve_isTy2 2 (by decide) T.n_isinstance (ve_var (pv 1)) T.n_str bt_ty2)))
    (vs_one (vs_ret ve_non)) vs_nil)
    (vs_cons (vs_for (t := (.tp [2, 3])) PassesOwn.never rfl (vi_enumT T.n_enumerate (va_cons (ve_fld 1 0 (ve_var (pv 0)) T.c1.cl T.a1_nodes T.l1_nodes) va_nil)) (pg_tup rfl (pgs_cons (pg_name (i := 2) sc_place_of.nd rfl (Or.inl rfl)) (pgs_cons (pg_name (i := 3) sc_place_of.nd rfl (Or.inl rfl)) pgs_nil)))
    (vs_one (vs_if (vt_cmp (od_eq hr.units) (ve_fld 0 0 (ve_var (pv 3)) T.c0.cl T.a0_label T.l0_label) (ve_var (pv 1)))
    (vs_one (vs_ret (ve_var (pv 2)))) vs_nil)))
    (vs_one (vs_ret ve_non))))
theorem ok_check_name (T : Txt G G.mg) {f : Addr} {fd : FuncData} (F : Fun G.K "check_name" "check_name" s_check_name f fd) (C_place_of : Cal G.P G.w G G.mg G.base "place_of" 1 2 m_place_of) : FnOk G.P G.w G.K G.mg G.base CX0 2 f fd ["net", "name"] (spV G 2 m_check_name) :=
  fn_ok F sc_check_name fun c cdv A outer sh H E hG hr => by
    subst hG
    exact (vs_one (vs_if (vt_isN (ve_call C_place_of rfl (hr.mono (by decide)) (va_cons (ve_var (pv 0)) (va_cons (ve_var (pv 1)) va_nil))))
    (vs_one vs_never) vs_nil))
theorem ok_check_whole (T : Txt G G.mg) {f : Addr} {fd : FuncData} (F : Fun G.K "check_whole" "check_whole" s_check_whole f fd) (C_is_whole : Cal G.P G.w G G.mg G.base "is_whole" 1 1 m_is_whole) : FnOk G.P G.w G.K G.mg G.base CX0 2 f fd ["value"] (spV G 1 m_check_whole) :=
  fn_ok F sc_check_whole fun c cdv A outer sh H E hG hr => by
    subst hG
    exact (vs_one (vs_if (vt_not (vt_val (ve_call C_is_whole rfl (hr.mono (by decide)) (va_cons (ve_var (pv 0)) va_nil))))
    (vs_one vs_never) vs_nil))
theorem ok_common_divisor (T : Txt G G.mg) {f : Addr} {fd : FuncData} (F : Fun G.K "common_divisor" "common_divisor" s_common_divisor f fd)  : FnOk G.P G.w G.K G.mg G.base CX0 1 f fd ["one", "other"] (spV G 2 m_common_divisor) :=
  fn_ok F sc_common_divisor fun c cdv A outer sh H E hG hr => by
    subst hG
    exact (vs_cons (vs_while (fuelI 1) PassesOwn.never (vt_cmp (od_ne hr.units) (ve_var (pv 1)) ve_int)
    (vs_one (vs_par2 (i := 0) (j := 1) rfl sc_common_divisor.nd (va_cons (ve_var (pv 1)) (va_cons (ve_op od_mod (ve_callT ca_int T.n_int bt_int (va_cons (ve_var (pv 0)) va_nil)) (ve_callT ca_int T.n_int bt_int (va_cons (ve_var (pv 1)) va_nil))) va_nil)) rfl)))
    (vs_one (vs_ret (ve_var (pv 0)))))
theorem ok_common_multiple (T : Txt G G.mg) {f : Addr} {fd : FuncData} (F : Fun G.K "common_multiple" "common_multiple" s_common_multiple f fd) (C_common_divisor : Cal G.P G.w G G.mg G.base "common_divisor" 1 2 m_common_divisor) : FnOk G.P G.w G.K G.mg G.base CX0 2 f fd ["numbers"] (spV G 1 m_common_multiple) :=
  fn_ok F sc_common_multiple fun c cdv A outer sh H E hG hr => by
    subst hG
    exact (vs_cons (vs_set (i := 1) sc_common_multiple.nd ve_int)
    (vs_cons (vs_for (t := (.nm 2)) PassesOwn.never rfl (vi_list (ve_var (pv 0))) (pg_name (i := 2) sc_common_multiple.nd rfl (Or.inl rfl))
    (vs_one (vs_set (i := 1) sc_common_multiple.nd (ve_op od_mul (ve_op od_fdiv (ve_var (pv 1)) (ve_call C_common_divisor rfl (hr.mono (by decide)) (va_cons (ve_var (pv 1)) (va_cons (ve_var (pv 2)) va_nil)))) (ve_var (pv 2))))))
    (vs_one (vs_ret (ve_var (pv 1))))))
theorem ok_in_units (T : Txt G G.mg) {f : Addr} {fd : FuncData} (F : Fun G.K "in_units" "in_units" s_in_units f fd) (C_common_multiple : Cal G.P G.w G G.mg G.base "common_multiple" 2 1 m_common_multiple) : FnOk G.P G.w G.K G.mg G.base CX0 3 f fd ["phases"] (spV G 1 m_in_units) :=
  fn_ok F sc_in_units fun c cdv A outer sh H E hG hr => by
    subst hG
    exact (vs_cons (vs_set (i := 1) sc_in_units.nd (ve_call C_common_multiple rfl (hr.mono (by decide)) (va_cons (ve_lc (own := [("number", 2), ("total", 3)]) (.tp [2, 3]) rfl sc_in_units.nd (vi_tup (ve_var (pv 0))) (blkOk_by (N := N_in_units) (sc := defScope s_in_units) (by decide +kernel)) rfl (fun _ _ _ _ _ => (pg_tup rfl (pgs_cons (pg_name (i := 2) sc_in_units.nd rfl (Or.inl rfl)) (pgs_cons (pg_name (i := 3) sc_in_units.nd rfl (Or.inl rfl)) pgs_nil)))) (fun _ _ _ _ _ _ _ _ => vts_nil) (fun _ _ _ _ _ _ _ _ => (ve_var (pv 3)))) va_nil)))
    (vs_one (vs_ret (ve_tup (va_cons (ve_lc (own := [("number", 2), ("total", 3)]) (.tp [2, 3]) rfl sc_in_units.nd (vi_tup (ve_var (pv 0))) (blkOk_by (N := N_in_units) (sc := defScope s_in_units) (by decide +kernel)) rfl (fun _ _ _ _ _ => (pg_tup rfl (pgs_cons (pg_name (i := 2) sc_in_units.nd rfl (Or.inl rfl)) (pgs_cons (pg_name (i := 3) sc_in_units.nd rfl (Or.inl rfl)) pgs_nil)))) (fun _ _ _ _ _ _ _ _ => vts_nil) (fun _ _ _ _ _ _ _ _ => (ve_op od_mul (ve_var (pv 2)) (ve_op od_fdiv (ve_var (pv 1)) (ve_var (pv 3)))))) (va_cons (ve_var (pv 1)) va_nil))))))
theorem ok_time_begun (T : Txt G G.mg) {f : Addr} {fd : FuncData} (F : Fun G.K "time_begun" "time_begun" s_time_begun f fd)  : FnOk G.P G.w G.K G.mg G.base CX0 1 f fd ["net", "starts", "scale", "place", "run"] (spV G 5 m_time_begun) :=
  fn_ok F sc_time_begun fun c cdv A outer sh H E hG hr => by
    subst hG
    exact (vs_one (vs_ret (ve_op od_add (ve_ix rfl (ve_var (pv 1)) (ve_var (pv 3))) (ve_op od_mul (ve_op od_mul (ve_var (pv 4)) (ve_fld 0 1 (ve_ix rfl (ve_fld 1 0 (ve_var (pv 0)) T.c1.cl T.a1_nodes T.l1_nodes) (ve_var (pv 3))) T.c0.cl T.a0_turn T.l0_turn)) (ve_var (pv 2))))))
theorem ok_lowest (T : Txt G G.mg) {f : Addr} {fd : FuncData} (F : Fun G.K "lowest" "lowest" s_lowest f fd) (C_common_divisor : Cal G.P G.w G G.mg G.base "common_divisor" 1 2 m_common_divisor) : FnOk G.P G.w G.K G.mg G.base CX0 2 f fd ["number", "total"] (spV G 2 m_lowest) :=
  fn_ok F sc_lowest fun c cdv A outer sh H E hG hr => by
    subst hG
    exact (vs_cons (vs_set (i := 2) sc_lowest.nd (ve_call C_common_divisor rfl (hr.mono (by decide)) (va_cons (ve_callB (ca_abs) T.n_abs bt_abs (va_cons (ve_var (pv 0)) va_nil)) (va_cons (ve_var (pv 1)) va_nil))))
    (vs_one (vs_ret (ve_tup (va_cons (ve_op od_fdiv (ve_var (pv 0)) (ve_var (pv 2))) (va_cons (ve_op od_fdiv (ve_var (pv 1)) (ve_var (pv 2))) va_nil))))))
theorem ok_begun (T : Txt G G.mg) {f : Addr} {fd : FuncData} (F : Fun G.K "begun" "begun" s_begun f fd) (C_check_net_and_phases : Cal G.P G.w G G.mg G.base "check_net_and_phases" 4 2 m_check_net_and_phases) (C_check_name : Cal G.P G.w G G.mg G.base "check_name" 2 2 m_check_name) (C_check_whole : Cal G.P G.w G G.mg G.base "check_whole" 2 1 m_check_whole) (C_in_units : Cal G.P G.w G G.mg G.base "in_units" 3 1 m_in_units) (C_place_of : Cal G.P G.w G G.mg G.base "place_of" 1 2 m_place_of) (C_time_begun : Cal G.P G.w G G.mg G.base "time_begun" 1 5 m_time_begun) (C_lowest : Cal G.P G.w G G.mg G.base "lowest" 2 2 m_lowest) : FnOk G.P G.w G.K G.mg G.base CX0 5 f fd ["net", "phases", "name", "run"] (spV G 4 m_begun) :=
  fn_ok F sc_begun fun c cdv A outer sh H E hG hr => by
    subst hG
    exact (vs_cons (vs_drop (ve_call C_check_net_and_phases rfl (hr.mono (by decide)) (va_cons (ve_var (pv 0)) (va_cons (ve_var (pv 1)) va_nil))))
    (vs_cons (vs_drop (ve_call C_check_name rfl (hr.mono (by decide)) (va_cons (ve_var (pv 0)) (va_cons (ve_var (pv 2)) va_nil))))
    (vs_cons (vs_drop (ve_call C_check_whole rfl (hr.mono (by decide)) (va_cons (ve_var (pv 3)) va_nil)))
    (vs_cons (vs_tup [4, 5] (ve_call C_in_units rfl (hr.mono (by decide)) (va_cons (ve_var (pv 1)) va_nil)) (pg_tup rfl (pgs_cons (pg_name (i := 4) sc_begun.nd rfl (Or.inl rfl)) (pgs_cons (pg_name (i := 5) sc_begun.nd rfl (Or.inl rfl)) pgs_nil))))
    (vs_one (vs_ret (ve_call C_lowest rfl (hr.mono (by decide)) (va_cons (ve_call C_time_begun rfl (hr.mono (by decide)) (va_cons (ve_var (pv 0)) (va_cons (ve_var (pv 4)) (va_cons (ve_var (pv 5)) (va_cons (ve_call C_place_of rfl (hr.mono (by decide)) (va_cons (ve_var (pv 0)) (va_cons (ve_var (pv 2)) va_nil))) (va_cons (ve_var (pv 3)) va_nil)))))) (va_cons (ve_var (pv 5)) va_nil)))))))))
theorem ok_run_read (T : Txt G G.mg) {f : Addr} {fd : FuncData} (F : Fun G.K "run_read" "run_read" s_run_read f fd)  : FnOk G.P G.w G.K G.mg G.base CX0 1 f fd ["net", "starts", "scale", "reader", "source", "run"] (spV G 6 m_run_read) :=
  fn_ok F sc_run_read fun c cdv A outer sh H E hG hr => by
    subst hG
    exact (vs_cons (vs_set (i := 6) sc_run_read.nd (ve_op od_add (ve_ix rfl (ve_var (pv 1)) (ve_var (pv 3))) (ve_op od_mul (ve_op od_mul (ve_var (pv 5)) (ve_fld 0 1 (ve_ix rfl (ve_fld 1 0 (ve_var (pv 0)) T.c1.cl T.a1_nodes T.l1_nodes) (ve_var (pv 3))) T.c0.cl T.a0_turn T.l0_turn)) (ve_var (pv 2)))))
    (vs_cons (vs_set (i := 7) sc_run_read.nd (ve_op od_sub (ve_op od_sub (ve_var (pv 6)) (ve_ix rfl (ve_var (pv 1)) (ve_var (pv 4)))) (ve_op od_mul (ve_fld 0 2 (ve_ix rfl (ve_fld 1 0 (ve_var (pv 0)) T.c1.cl T.a1_nodes T.l1_nodes) (ve_var (pv 4))) T.c0.cl T.a0_lag T.l0_lag) (ve_var (pv 2)))))
    (vs_one (vs_ret (ve_op od_fdiv (ve_var (pv 7)) (ve_op od_mul (ve_fld 0 1 (ve_ix rfl (ve_fld 1 0 (ve_var (pv 0)) T.c1.cl T.a1_nodes T.l1_nodes) (ve_var (pv 4))) T.c0.cl T.a0_turn T.l0_turn) (ve_var (pv 2))))))))
theorem ok_newest (T : Txt G G.mg) {f : Addr} {fd : FuncData} (F : Fun G.K "newest" "newest" s_newest f fd) (C_check_net_and_phases : Cal G.P G.w G G.mg G.base "check_net_and_phases" 4 2 m_check_net_and_phases) (C_check_name : Cal G.P G.w G G.mg G.base "check_name" 2 2 m_check_name) (C_place_of : Cal G.P G.w G G.mg G.base "place_of" 1 2 m_place_of) (C_check_whole : Cal G.P G.w G G.mg G.base "check_whole" 2 1 m_check_whole) (C_in_units : Cal G.P G.w G G.mg G.base "in_units" 3 1 m_in_units) (C_run_read : Cal G.P G.w G G.mg G.base "run_read" 1 6 m_run_read) : FnOk G.P G.w G.K G.mg G.base CX0 5 f fd ["net", "phases", "reader", "name", "run"] (spV G 5 m_newest) :=
  fn_ok F sc_newest fun c cdv A outer sh H E hG hr => by
    subst hG
    exact (vs_cons (vs_drop (ve_call C_check_net_and_phases rfl (hr.mono (by decide)) (va_cons (ve_var (pv 0)) (va_cons (ve_var (pv 1)) va_nil))))
    (vs_cons (vs_drop (ve_call C_check_name rfl (hr.mono (by decide)) (va_cons (ve_var (pv 0)) (va_cons (ve_var (pv 2)) va_nil))))
    (vs_cons (vs_if (PW.pt (vw_or (vt_not (vt_val (ve_isTy2 2 (by decide) T.n_isinstance (ve_var (pv 3)) T.n_str bt_ty2))) (pw_or1 (vt_cmp od_notin (ve_var (pv 3)) (ve_fld 0 3 (ve_ix rfl (ve_fld 1 0 (ve_var (pv 0)) T.c1.cl T.a1_nodes T.l1_nodes) (ve_call C_place_of rfl (hr.mono (by decide)) (va_cons (ve_var (pv 0)) (va_cons (ve_var (pv 2)) va_nil)))) T.c0.cl T.a0_sources T.l0_sources)))))
    (vs_one vs_never) vs_nil)
    (vs_cons (vs_drop (ve_call C_check_whole rfl (hr.mono (by decide)) (va_cons (ve_var (pv 4)) va_nil)))
    (vs_cons (vs_tup [5, 6] (ve_call C_in_units rfl (hr.mono (by decide)) (va_cons (ve_var (pv 1)) va_nil)) (pg_tup rfl (pgs_cons (pg_name (i := 5) sc_newest.nd rfl (Or.inl rfl)) (pgs_cons (pg_name (i := 6) sc_newest.nd rfl (Or.inl rfl)) pgs_nil))))
    (vs_one (vs_ret (ve_call C_run_read rfl (hr.mono (by decide)) (va_cons (ve_var (pv 0)) (va_cons (ve_var (pv 5)) (va_cons (ve_var (pv 6)) (va_cons (ve_call C_place_of rfl (hr.mono (by decide)) (va_cons (ve_var (pv 0)) (va_cons (ve_var (pv 2)) va_nil))) (va_cons (ve_call C_place_of rfl (hr.mono (by decide)) (va_cons (ve_var (pv 0)) (va_cons (ve_var (pv 3)) va_nil))) (va_cons (ve_var (pv 4)) va_nil))))))))))))))
theorem ok_check_path (T : Txt G G.mg) {f : Addr} {fd : FuncData} (F : Fun G.K "check_path" "check_path" s_check_path f fd) (C_place_of : Cal G.P G.w G G.mg G.base "place_of" 1 2 m_place_of) : FnOk G.P G.w G.K G.mg G.base CX0 2 f fd ["net", "value"] (spV G 2 m_check_path) :=
  fn_ok F sc_check_path fun c cdv A outer sh H E hG hr => by
    subst hG
    exact (vs_cons (vs_if (PW.pt (vw_or (vt_not (vt_val (ve_isTy2 3 (by decide) T.n_isinstance (ve_var (pv 1)) T.n_list bt_ty3))) (vw_or (vt_cmp (od_eqL hr.units) (ve_var (pv 1)) (ve_lst va_nil)) (pw_or1 (vt_cmp (od_ne hr.units) (ve_lc (own := [("one", 2)]) (.nm 2) rfl sc_check_path.nd (vi_list (ve_var (pv 1))) (blkOk_by (N := N_check_path) (sc := defScope s_check_path) (by decide +kernel)) rfl (fun _ _ _ _ _ => (pg_name (i := 2) sc_check_path.nd rfl (Or.inl rfl))) (fun _ _ _ _ _ _ _ _ => (vts_one (vt_isN (ve_call C_place_of rfl (hr.mono (by decide)) (va_cons (ve_var (pv 0)) (va_cons (ve_var (pv 2)) va_nil)))))) (fun _ _ _ _ _ _ _ _ => (ve_var (pv 2)))) (ve_lst va_nil))))))
    (vs_one vs_never) vs_nil)
    (vs_one (vs_for (t := (.tp [2, 3])) PassesOwn.never rfl (vi_zip T.n_zip (va_cons (ve_var (pv 1)) (va_cons (ve_slice (ve_var (pv 1)) (vo_some ve_int) vo_none) va_nil))) (pg_tup rfl (pgs_cons (pg_name (i := 2) sc_check_path.nd rfl (Or.inl rfl)) (pgs_cons (pg_name (i := 3) sc_check_path.nd rfl (Or.inl rfl)) pgs_nil)))
    (vs_one (vs_if (vt_cmp od_notin (ve_var (pv 2)) (ve_fld 0 3 (ve_ix rfl (ve_fld 1 0 (ve_var (pv 0)) T.c1.cl T.a1_nodes T.l1_nodes) (ve_call C_place_of rfl (hr.mono (by decide)) (va_cons (ve_var (pv 0)) (va_cons (ve_var (pv 3)) va_nil)))) T.c0.cl T.a0_sources T.l0_sources))
    (vs_one vs_never) vs_nil)))))
theorem ok_places_of (T : Txt G G.mg) {f : Addr} {fd : FuncData} (F : Fun G.K "places_of" "places_of" s_places_of f fd) (C_place_of : Cal G.P G.w G G.mg G.base "place_of" 1 2 m_place_of) : FnOk G.P G.w G.K G.mg G.base CX0 2 f fd ["net", "path"] (spV G 2 m_places_of) :=
  fn_ok F sc_places_of fun c cdv A outer sh H E hG hr => by
    subst hG
    exact (vs_one (vs_ret (ve_lc (own := [("name", 2)]) (.nm 2) rfl sc_places_of.nd (vi_list (ve_var (pv 1))) (blkOk_by (N := N_places_of) (sc := defScope s_places_of) (by decide +kernel)) rfl (fun _ _ _ _ _ => (pg_name (i := 2) sc_places_of.nd rfl (Or.inl rfl))) (fun _ _ _ _ _ _ _ _ => vts_nil) (fun _ _ _ _ _ _ _ _ => (ve_call C_place_of rfl (hr.mono (by decide)) (va_cons (ve_var (pv 0)) (va_cons (ve_var (pv 2)) va_nil)))))))
theorem ok_run_carried (T : Txt G G.mg) {f : Addr} {fd : FuncData} (F : Fun G.K "run_carried" "run_carried" s_run_carried f fd) (C_run_read : Cal G.P G.w G G.mg G.base "run_read" 1 6 m_run_read) : FnOk G.P G.w G.K G.mg G.base CX0 2 f fd ["net", "starts", "scale", "places", "run"] (spV G 5 m_run_carried) :=
  fn_ok F sc_run_carried fun c cdv A outer sh H E hG hr => by
    subst hG
    exact (vs_cons (vs_for (t := (.nm 5)) PassesOwn.never rfl (vi_rangeD T.n_range (va_cons (ve_op od_sub (ve_callB (ca_len rfl) T.n_len bt_len (va_cons (ve_var (pv 3)) va_nil)) ve_int) (va_cons ve_int (va_cons (ve_neg ve_int) va_nil)))) (pg_name (i := 5) sc_run_carried.nd rfl (Or.inl rfl))
    (vs_one (vs_set (i := 4) sc_run_carried.nd (ve_call C_run_read rfl (hr.mono (by decide)) (va_cons (ve_var (pv 0)) (va_cons (ve_var (pv 1)) (va_cons (ve_var (pv 2)) (va_cons (ve_ix rfl (ve_var (pv 3)) (ve_var (pv 5))) (va_cons (ve_ix rfl (ve_var (pv 3)) (ve_op od_sub (ve_var (pv 5)) ve_int)) (va_cons (ve_var (pv 4)) va_nil))))))))))
    (vs_one (vs_ret (ve_var (pv 4)))))
theorem ok_carried (T : Txt G G.mg) {f : Addr} {fd : FuncData} (F : Fun G.K "carried" "carried" s_carried f fd) (C_check_net_and_phases : Cal G.P G.w G G.mg G.base "check_net_and_phases" 4 2 m_check_net_and_phases) (C_check_path : Cal G.P G.w G G.mg G.base "check_path" 2 2 m_check_path) (C_check_whole : Cal G.P G.w G G.mg G.base "check_whole" 2 1 m_check_whole) (C_in_units : Cal G.P G.w G G.mg G.base "in_units" 3 1 m_in_units) (C_places_of : Cal G.P G.w G G.mg G.base "places_of" 2 2 m_places_of) (C_run_carried : Cal G.P G.w G G.mg G.base "run_carried" 2 5 m_run_carried) : FnOk G.P G.w G.K G.mg G.base CX0 5 f fd ["net", "phases", "path", "run"] (spV G 4 m_carried) :=
  fn_ok F sc_carried fun c cdv A outer sh H E hG hr => by
    subst hG
    exact (vs_cons (vs_drop (ve_call C_check_net_and_phases rfl (hr.mono (by decide)) (va_cons (ve_var (pv 0)) (va_cons (ve_var (pv 1)) va_nil))))
    (vs_cons (vs_drop (ve_call C_check_path rfl (hr.mono (by decide)) (va_cons (ve_var (pv 0)) (va_cons (ve_var (pv 2)) va_nil))))
    (vs_cons (vs_drop (ve_call C_check_whole rfl (hr.mono (by decide)) (va_cons (ve_var (pv 3)) va_nil)))
    (vs_cons (vs_tup [4, 5] (ve_call C_in_units rfl (hr.mono (by decide)) (va_cons (ve_var (pv 1)) va_nil)) (pg_tup rfl (pgs_cons (pg_name (i := 4) sc_carried.nd rfl (Or.inl rfl)) (pgs_cons (pg_name (i := 5) sc_carried.nd rfl (Or.inl rfl)) pgs_nil))))
    (vs_one (vs_ret (ve_call C_run_carried rfl (hr.mono (by decide)) (va_cons (ve_var (pv 0)) (va_cons (ve_var (pv 4)) (va_cons (ve_var (pv 5)) (va_cons (ve_call C_places_of rfl (hr.mono (by decide)) (va_cons (ve_var (pv 0)) (va_cons (ve_var (pv 2)) va_nil))) (va_cons (ve_var (pv 3)) va_nil))))))))))))
theorem ok_time_written (T : Txt G G.mg) {f : Addr} {fd : FuncData} (F : Fun G.K "time_written" "time_written" s_time_written f fd) (C_time_begun : Cal G.P G.w G G.mg G.base "time_begun" 1 5 m_time_begun) : FnOk G.P G.w G.K G.mg G.base CX0 2 f fd ["net", "starts", "scale", "place", "run"] (spV G 5 m_time_written) :=
  fn_ok F sc_time_written fun c cdv A outer sh H E hG hr => by
    subst hG
    exact (vs_one (vs_ret (ve_op od_add (ve_call C_time_begun rfl (hr.mono (by decide)) (va_cons (ve_var (pv 0)) (va_cons (ve_var (pv 1)) (va_cons (ve_var (pv 2)) (va_cons (ve_var (pv 3)) (va_cons (ve_var (pv 4)) va_nil)))))) (ve_op od_mul (ve_fld 0 2 (ve_ix rfl (ve_fld 1 0 (ve_var (pv 0)) T.c1.cl T.a1_nodes T.l1_nodes) (ve_var (pv 3))) T.c0.cl T.a0_lag T.l0_lag) (ve_var (pv 2))))))
theorem ok_age_of (T : Txt G G.mg) {f : Addr} {fd : FuncData} (F : Fun G.K "age_of" "age_of" s_age_of f fd) (C_time_written : Cal G.P G.w G G.mg G.base "time_written" 2 5 m_time_written) (C_time_begun : Cal G.P G.w G G.mg G.base "time_begun" 1 5 m_time_begun) : FnOk G.P G.w G.K G.mg G.base CX0 3 f fd ["net", "starts", "scale", "places", "run", "source"] (spV G 6 m_age_of) :=
  fn_ok F sc_age_of fun c cdv A outer sh H E hG hr => by
    subst hG
    exact (vs_cons (vs_set (i := 6) sc_age_of.nd (ve_call C_time_written rfl (hr.mono (by decide)) (va_cons (ve_var (pv 0)) (va_cons (ve_var (pv 1)) (va_cons (ve_var (pv 2)) (va_cons (ve_ix rfl (ve_var (pv 3)) (ve_neg ve_int)) (va_cons (ve_var (pv 4)) va_nil)))))))
    (vs_one (vs_ret (ve_op od_sub (ve_var (pv 6)) (ve_call C_time_begun rfl (hr.mono (by decide)) (va_cons (ve_var (pv 0)) (va_cons (ve_var (pv 1)) (va_cons (ve_var (pv 2)) (va_cons (ve_ix rfl (ve_var (pv 3)) ve_int) (va_cons (ve_var (pv 5)) va_nil))))))))))
theorem ok_age (T : Txt G G.mg) {f : Addr} {fd : FuncData} (F : Fun G.K "age" "age" s_age f fd) (C_carried : Cal G.P G.w G G.mg G.base "carried" 5 4 m_carried) (C_in_units : Cal G.P G.w G G.mg G.base "in_units" 3 1 m_in_units) (C_places_of : Cal G.P G.w G G.mg G.base "places_of" 2 2 m_places_of) (C_age_of : Cal G.P G.w G G.mg G.base "age_of" 3 6 m_age_of) (C_lowest : Cal G.P G.w G G.mg G.base "lowest" 2 2 m_lowest) : FnOk G.P G.w G.K G.mg G.base CX0 6 f fd ["net", "phases", "path", "run"] (spV G 4 m_age) :=
  fn_ok F sc_age fun c cdv A outer sh H E hG hr => by
    subst hG
    exact (vs_cons (vs_set (i := 4) sc_age.nd (ve_call C_carried rfl (hr.mono (by decide)) (va_cons (ve_var (pv 0)) (va_cons (ve_var (pv 1)) (va_cons (ve_var (pv 2)) (va_cons (ve_var (pv 3)) va_nil))))))
    (vs_cons (vs_tup [5, 6] (ve_call C_in_units rfl (hr.mono (by decide)) (va_cons (ve_var (pv 1)) va_nil)) (pg_tup rfl (pgs_cons (pg_name (i := 5) sc_age.nd rfl (Or.inl rfl)) (pgs_cons (pg_name (i := 6) sc_age.nd rfl (Or.inl rfl)) pgs_nil))))
    (vs_one (vs_ret (ve_call C_lowest rfl (hr.mono (by decide)) (va_cons (ve_call C_age_of rfl (hr.mono (by decide)) (va_cons (ve_var (pv 0)) (va_cons (ve_var (pv 5)) (va_cons (ve_var (pv 6)) (va_cons (ve_call C_places_of rfl (hr.mono (by decide)) (va_cons (ve_var (pv 0)) (va_cons (ve_var (pv 2)) va_nil))) (va_cons (ve_var (pv 3)) (va_cons (ve_var (pv 4)) va_nil))))))) (va_cons (ve_var (pv 6)) va_nil)))))))
theorem ok_whole_turn (T : Txt G G.mg) {f : Addr} {fd : FuncData} (F : Fun G.K "whole_turn" "whole_turn" s_whole_turn f fd) (C_common_multiple : Cal G.P G.w G G.mg G.base "common_multiple" 2 1 m_common_multiple) : FnOk G.P G.w G.K G.mg G.base CX0 3 f fd ["net"] (spV G 1 m_whole_turn) :=
  fn_ok F sc_whole_turn fun c cdv A outer sh H E hG hr => by
    subst hG
    exact (vs_one (vs_ret (ve_call C_common_multiple rfl (hr.mono (by decide)) (va_cons (ve_lc (own := [("step", 1)]) (.nm 1) rfl sc_whole_turn.nd (vi_tup (ve_fld 1 0 (ve_var (pv 0)) T.c1.cl T.a1_nodes T.l1_nodes)) (blkOk_by (N := N_whole_turn) (sc := defScope s_whole_turn) (by decide +kernel)) rfl (fun _ _ _ _ _ => (pg_name (i := 1) sc_whole_turn.nd rfl (Or.inl rfl))) (fun _ _ _ _ _ _ _ _ => vts_nil) (fun _ _ _ _ _ _ _ _ => (ve_fld 0 1 (ve_var (pv 1)) T.c0.cl T.a0_turn T.l0_turn))) va_nil))))
theorem ok_runs_in_turn (T : Txt G G.mg) {f : Addr} {fd : FuncData} (F : Fun G.K "runs_in_turn" "runs_in_turn" s_runs_in_turn f fd) (C_whole_turn : Cal G.P G.w G G.mg G.base "whole_turn" 3 1 m_whole_turn) : FnOk G.P G.w G.K G.mg G.base CX0 4 f fd ["net", "place"] (spV G 2 m_runs_in_turn) :=
  fn_ok F sc_runs_in_turn fun c cdv A outer sh H E hG hr => by
    subst hG
    exact (vs_one (vs_ret (ve_op od_fdiv (ve_call C_whole_turn rfl (hr.mono (by decide)) (va_cons (ve_var (pv 0)) va_nil)) (ve_fld 0 1 (ve_ix rfl (ve_fld 1 0 (ve_var (pv 0)) T.c1.cl T.a1_nodes T.l1_nodes) (ve_var (pv 1))) T.c0.cl T.a0_turn T.l0_turn))))
theorem ok_all_carried (T : Txt G G.mg) {f : Addr} {fd : FuncData} (F : Fun G.K "all_carried" "all_carried" s_all_carried f fd) (C_runs_in_turn : Cal G.P G.w G G.mg G.base "runs_in_turn" 4 2 m_runs_in_turn) (C_run_carried : Cal G.P G.w G G.mg G.base "run_carried" 2 5 m_run_carried) : FnOk G.P G.w G.K G.mg G.base CX0 5 f fd ["net", "starts", "scale", "places"] (spV G 4 m_all_carried) :=
  fn_ok F sc_all_carried fun c cdv A outer sh H E hG hr => by
    subst hG
    exact (vs_cons (vs_set (i := 4) sc_all_carried.nd (ve_call C_runs_in_turn rfl (hr.mono (by decide)) (va_cons (ve_var (pv 0)) (va_cons (ve_ix rfl (ve_var (pv 3)) (ve_neg ve_int)) va_nil))))
    (vs_one (vs_ret (ve_lc (own := [("run", 5)]) (.nm 5) rfl sc_all_carried.nd (vi_range2 T.n_range (va_cons (ve_op od_sub ve_int ve_int) (va_cons (ve_var (pv 4)) va_nil))) (blkOk_by (N := N_all_carried) (sc := defScope s_all_carried) (by decide +kernel)) rfl (fun _ _ _ _ _ => (pg_name (i := 5) sc_all_carried.nd rfl (Or.inl rfl))) (fun _ _ _ _ _ _ _ _ => vts_nil) (fun _ _ _ _ _ _ _ _ => (ve_call C_run_carried rfl (hr.mono (by decide)) (va_cons (ve_var (pv 0)) (va_cons (ve_var (pv 1)) (va_cons (ve_var (pv 2)) (va_cons (ve_var (pv 3)) (va_cons (ve_var (pv 5)) va_nil)))))))))))
theorem ok_all_ages (T : Txt G G.mg) {f : Addr} {fd : FuncData} (F : Fun G.K "all_ages" "all_ages" s_all_ages f fd) (C_all_carried : Cal G.P G.w G G.mg G.base "all_carried" 5 4 m_all_carried) (C_age_of : Cal G.P G.w G G.mg G.base "age_of" 3 6 m_age_of) : FnOk G.P G.w G.K G.mg G.base CX0 6 f fd ["net", "starts", "scale", "places"] (spV G 4 m_all_ages) :=
  fn_ok F sc_all_ages fun c cdv A outer sh H E hG hr => by
    subst hG
    exact (vs_cons (vs_set (i := 4) sc_all_ages.nd (ve_slice (ve_call C_all_carried rfl (hr.mono (by decide)) (va_cons (ve_var (pv 0)) (va_cons (ve_var (pv 1)) (va_cons (ve_var (pv 2)) (va_cons (ve_var (pv 3)) va_nil))))) (vo_some ve_int) vo_none))
    (vs_one (vs_ret (ve_lc (own := [("run", 5), ("source", 6)]) (.tp [5, 6]) rfl sc_all_ages.nd (vi_enum T.n_enumerate (va_cons (ve_var (pv 4)) va_nil)) (blkOk_by (N := N_all_ages) (sc := defScope s_all_ages) (by decide +kernel)) rfl (fun _ _ _ _ _ => (pg_tup rfl (pgs_cons (pg_name (i := 5) sc_all_ages.nd rfl (Or.inl rfl)) (pgs_cons (pg_name (i := 6) sc_all_ages.nd rfl (Or.inl rfl)) pgs_nil)))) (fun _ _ _ _ _ _ _ _ => vts_nil) (fun _ _ _ _ _ _ _ _ => (ve_call C_age_of rfl (hr.mono (by decide)) (va_cons (ve_var (pv 0)) (va_cons (ve_var (pv 1)) (va_cons (ve_var (pv 2)) (va_cons (ve_var (pv 3)) (va_cons (ve_var (pv 5)) (va_cons (ve_var (pv 6)) va_nil))))))))))))
theorem ok_ages (T : Txt G G.mg) {f : Addr} {fd : FuncData} (F : Fun G.K "ages" "ages" s_ages f fd) (C_check_net_and_phases : Cal G.P G.w G G.mg G.base "check_net_and_phases" 4 2 m_check_net_and_phases) (C_check_path : Cal G.P G.w G G.mg G.base "check_path" 2 2 m_check_path) (C_in_units : Cal G.P G.w G G.mg G.base "in_units" 3 1 m_in_units) (C_places_of : Cal G.P G.w G G.mg G.base "places_of" 2 2 m_places_of) (C_all_ages : Cal G.P G.w G G.mg G.base "all_ages" 6 4 m_all_ages) (C_lowest : Cal G.P G.w G G.mg G.base "lowest" 2 2 m_lowest) : FnOk G.P G.w G.K G.mg G.base CX0 7 f fd ["net", "phases", "path"] (spV G 3 m_ages) :=
  fn_ok F sc_ages fun c cdv A outer sh H E hG hr => by
    subst hG
    exact (vs_cons (vs_drop (ve_call C_check_net_and_phases rfl (hr.mono (by decide)) (va_cons (ve_var (pv 0)) (va_cons (ve_var (pv 1)) va_nil))))
    (vs_cons (vs_drop (ve_call C_check_path rfl (hr.mono (by decide)) (va_cons (ve_var (pv 0)) (va_cons (ve_var (pv 2)) va_nil))))
    (vs_cons (vs_tup [3, 4] (ve_call C_in_units rfl (hr.mono (by decide)) (va_cons (ve_var (pv 1)) va_nil)) (pg_tup rfl (pgs_cons (pg_name (i := 3) sc_ages.nd rfl (Or.inl rfl)) (pgs_cons (pg_name (i := 4) sc_ages.nd rfl (Or.inl rfl)) pgs_nil))))
    (vs_cons (vs_set (i := 5) sc_ages.nd (ve_callB (ca_sorted) T.n_sorted bt_sorted (va_cons (ve_lc (own := [("one", 6)]) (.nm 6) rfl sc_ages.nd (vi_list (ve_call C_all_ages rfl (hr.mono (by decide)) (va_cons (ve_var (pv 0)) (va_cons (ve_var (pv 3)) (va_cons (ve_var (pv 4)) (va_cons (ve_call C_places_of rfl (hr.mono (by decide)) (va_cons (ve_var (pv 0)) (va_cons (ve_var (pv 2)) va_nil))) va_nil)))))) (blkOk_by (N := N_ages) (sc := defScope s_ages) (by decide +kernel)) rfl (fun _ _ _ _ _ => (pg_name (i := 6) sc_ages.nd rfl (Or.inl rfl))) (fun _ _ _ _ _ _ _ _ => vts_nil) (fun _ _ _ _ _ _ _ _ => (ve_callT ca_int T.n_int bt_int (va_cons (ve_var (pv 6)) va_nil)))) va_nil)))
    (vs_one (vs_ret (ve_tup (va_cons (ve_call C_lowest rfl (hr.mono (by decide)) (va_cons (ve_ix rfl (ve_var (pv 5)) ve_int) (va_cons (ve_var (pv 4)) va_nil))) (va_cons (ve_call C_lowest rfl (hr.mono (by decide)) (va_cons (ve_ix rfl (ve_var (pv 5)) (ve_neg ve_int)) (va_cons (ve_var (pv 4)) va_nil))) va_nil)))))))))
theorem ok_greatest_wait (T : Txt G G.mg) {f : Addr} {fd : FuncData} (F : Fun G.K "greatest_wait" "greatest_wait" s_greatest_wait f fd) (C_all_carried : Cal G.P G.w G G.mg G.base "all_carried" 5 4 m_all_carried) (C_time_written : Cal G.P G.w G G.mg G.base "time_written" 2 5 m_time_written) (C_time_begun : Cal G.P G.w G G.mg G.base "time_begun" 1 5 m_time_begun) : FnOk G.P G.w G.K G.mg G.base CX0 6 f fd ["net", "starts", "scale", "places"] (spV G 4 m_greatest_wait) :=
  fn_ok F sc_greatest_wait fun c cdv A outer sh H E hG hr => by
    subst hG
    exact (vs_cons (vs_set (i := 4) sc_greatest_wait.nd (ve_call C_all_carried rfl (hr.mono (by decide)) (va_cons (ve_var (pv 0)) (va_cons (ve_var (pv 1)) (va_cons (ve_var (pv 2)) (va_cons (ve_var (pv 3)) va_nil))))))
    (vs_cons (vs_set (i := 5) sc_greatest_wait.nd ve_non)
    (vs_cons (vs_for (t := (.np 6 [7, 8])) PassesOwn.never rfl (vi_enumZ T.n_enumerate T.n_zip (va_cons (ve_var (pv 4)) (va_cons (ve_slice (ve_var (pv 4)) (vo_some ve_int) vo_none) va_nil))) (pg_tup rfl (pgs_cons (pg_name (i := 6) sc_greatest_wait.nd rfl (Or.inl rfl)) (pgs_cons (pg_tup rfl (pgs_cons (pg_name (i := 7) sc_greatest_wait.nd rfl (Or.inl rfl)) (pgs_cons (pg_name (i := 8) sc_greatest_wait.nd rfl (Or.inl rfl)) pgs_nil))) pgs_nil)))
    (vs_one (vs_if (vt_cmp od_lt (ve_var (pv 7)) (ve_var (pv 8)))
    (vs_cons (vs_set (i := 9) sc_greatest_wait.nd (ve_call C_time_written rfl (hr.mono (by decide)) (va_cons (ve_var (pv 0)) (va_cons (ve_var (pv 1)) (va_cons (ve_var (pv 2)) (va_cons (ve_ix rfl (ve_var (pv 3)) (ve_neg ve_int)) (va_cons (ve_var (pv 6)) va_nil)))))))
    (vs_cons (vs_set (i := 10) sc_greatest_wait.nd (ve_op od_sub (ve_var (pv 9)) (ve_call C_time_begun rfl (hr.mono (by decide)) (va_cons (ve_var (pv 0)) (va_cons (ve_var (pv 1)) (va_cons (ve_var (pv 2)) (va_cons (ve_ix rfl (ve_var (pv 3)) ve_int) (va_cons (ve_var (pv 7)) va_nil))))))))
    (vs_one (vs_if (PW.pt (vw_or (vt_isN (ve_var (pv 5))) (pw_or1 (vt_cmp od_gt (ve_var (pv 10)) (ve_var (pv 5))))))
    (vs_one (vs_set (i := 5) sc_greatest_wait.nd (ve_var (pv 10)))) vs_nil)))) vs_nil)))
    (vs_one (vs_ret (ve_var (pv 5)))))))
theorem ok_longest_wait (T : Txt G G.mg) {f : Addr} {fd : FuncData} (F : Fun G.K "longest_wait" "longest_wait" s_longest_wait f fd) (C_check_net_and_phases : Cal G.P G.w G G.mg G.base "check_net_and_phases" 4 2 m_check_net_and_phases) (C_check_path : Cal G.P G.w G G.mg G.base "check_path" 2 2 m_check_path) (C_in_units : Cal G.P G.w G G.mg G.base "in_units" 3 1 m_in_units) (C_places_of : Cal G.P G.w G G.mg G.base "places_of" 2 2 m_places_of) (C_greatest_wait : Cal G.P G.w G G.mg G.base "greatest_wait" 6 4 m_greatest_wait) (C_lowest : Cal G.P G.w G G.mg G.base "lowest" 2 2 m_lowest) : FnOk G.P G.w G.K G.mg G.base CX0 7 f fd ["net", "phases", "path"] (spV G 3 m_longest_wait) :=
  fn_ok F sc_longest_wait fun c cdv A outer sh H E hG hr => by
    subst hG
    exact (vs_cons (vs_drop (ve_call C_check_net_and_phases rfl (hr.mono (by decide)) (va_cons (ve_var (pv 0)) (va_cons (ve_var (pv 1)) va_nil))))
    (vs_cons (vs_drop (ve_call C_check_path rfl (hr.mono (by decide)) (va_cons (ve_var (pv 0)) (va_cons (ve_var (pv 2)) va_nil))))
    (vs_cons (vs_tup [3, 4] (ve_call C_in_units rfl (hr.mono (by decide)) (va_cons (ve_var (pv 1)) va_nil)) (pg_tup rfl (pgs_cons (pg_name (i := 3) sc_longest_wait.nd rfl (Or.inl rfl)) (pgs_cons (pg_name (i := 4) sc_longest_wait.nd rfl (Or.inl rfl)) pgs_nil))))
    (vs_one (vs_ret (ve_call C_lowest rfl (hr.mono (by decide)) (va_cons (ve_call C_greatest_wait rfl (hr.mono (by decide)) (va_cons (ve_var (pv 0)) (va_cons (ve_var (pv 3)) (va_cons (ve_var (pv 4)) (va_cons (ve_call C_places_of rfl (hr.mono (by decide)) (va_cons (ve_var (pv 0)) (va_cons (ve_var (pv 2)) va_nil))) va_nil))))) (va_cons (ve_var (pv 4)) va_nil))))))))
theorem ok_many_used (T : Txt G G.mg) {f : Addr} {fd : FuncData} (F : Fun G.K "many_used" "many_used" s_many_used f fd) (C_all_carried : Cal G.P G.w G G.mg G.base "all_carried" 5 4 m_all_carried) : FnOk G.P G.w G.K G.mg G.base CX0 6 f fd ["net", "starts", "scale", "places"] (spV G 4 m_many_used) :=
  fn_ok F sc_many_used fun c cdv A outer sh H E hG hr => by
    subst hG
    exact (vs_cons (vs_set (i := 4) sc_many_used.nd (ve_call C_all_carried rfl (hr.mono (by decide)) (va_cons (ve_var (pv 0)) (va_cons (ve_var (pv 1)) (va_cons (ve_var (pv 2)) (va_cons (ve_var (pv 3)) va_nil))))))
    (vs_one (vs_ret (ve_callB (ca_len rfl) T.n_len bt_len (va_cons (ve_lc (own := [("one", 5), ("other", 6)]) (.tp [5, 6]) rfl sc_many_used.nd (vi_zip T.n_zip (va_cons (ve_var (pv 4)) (va_cons (ve_slice (ve_var (pv 4)) (vo_some ve_int) vo_none) va_nil))) (blkOk_by (N := N_many_used) (sc := defScope s_many_used) (by decide +kernel)) rfl (fun _ _ _ _ _ => (pg_tup rfl (pgs_cons (pg_name (i := 5) sc_many_used.nd rfl (Or.inl rfl)) (pgs_cons (pg_name (i := 6) sc_many_used.nd rfl (Or.inl rfl)) pgs_nil)))) (fun _ _ _ _ _ _ _ _ => (vts_one (vt_cmp od_lt (ve_var (pv 5)) (ve_var (pv 6))))) (fun _ _ _ _ _ _ _ _ => (ve_var (pv 5)))) va_nil)))))
theorem ok_uses (T : Txt G G.mg) {f : Addr} {fd : FuncData} (F : Fun G.K "uses" "uses" s_uses f fd) (C_check_net_and_phases : Cal G.P G.w G G.mg G.base "check_net_and_phases" 4 2 m_check_net_and_phases) (C_check_path : Cal G.P G.w G G.mg G.base "check_path" 2 2 m_check_path) (C_in_units : Cal G.P G.w G G.mg G.base "in_units" 3 1 m_in_units) (C_places_of : Cal G.P G.w G G.mg G.base "places_of" 2 2 m_places_of) (C_many_used : Cal G.P G.w G G.mg G.base "many_used" 6 4 m_many_used) (C_runs_in_turn : Cal G.P G.w G G.mg G.base "runs_in_turn" 4 2 m_runs_in_turn) : FnOk G.P G.w G.K G.mg G.base CX0 7 f fd ["net", "phases", "path"] (spV G 3 m_uses) :=
  fn_ok F sc_uses fun c cdv A outer sh H E hG hr => by
    subst hG
    exact (vs_cons (vs_drop (ve_call C_check_net_and_phases rfl (hr.mono (by decide)) (va_cons (ve_var (pv 0)) (va_cons (ve_var (pv 1)) va_nil))))
    (vs_cons (vs_drop (ve_call C_check_path rfl (hr.mono (by decide)) (va_cons (ve_var (pv 0)) (va_cons (ve_var (pv 2)) va_nil))))
    (vs_cons (vs_tup [3, 4] (ve_call C_in_units rfl (hr.mono (by decide)) (va_cons (ve_var (pv 1)) va_nil)) (pg_tup rfl (pgs_cons (pg_name (i := 3) sc_uses.nd rfl (Or.inl rfl)) (pgs_cons (pg_name (i := 4) sc_uses.nd rfl (Or.inl rfl)) pgs_nil))))
    (vs_cons (vs_set (i := 5) sc_uses.nd (ve_call C_places_of rfl (hr.mono (by decide)) (va_cons (ve_var (pv 0)) (va_cons (ve_var (pv 2)) va_nil))))
    (vs_cons (vs_par2 (i := 6) (j := 7) rfl sc_uses.nd (va_cons (ve_call C_many_used rfl (hr.mono (by decide)) (va_cons (ve_var (pv 0)) (va_cons (ve_var (pv 3)) (va_cons (ve_var (pv 4)) (va_cons (ve_var (pv 5)) va_nil))))) (va_cons (ve_call C_runs_in_turn rfl (hr.mono (by decide)) (va_cons (ve_var (pv 0)) (va_cons (ve_ix rfl (ve_var (pv 5)) (ve_neg ve_int)) va_nil))) va_nil)) rfl)
    (vs_one (vs_ret (ve_tup (va_cons (ve_var (pv 6)) (va_cons (ve_op od_sub (ve_call C_runs_in_turn rfl (hr.mono (by decide)) (va_cons (ve_var (pv 0)) (va_cons (ve_ix rfl (ve_var (pv 5)) ve_int) va_nil))) (ve_var (pv 6))) (va_cons (ve_op od_sub (ve_var (pv 7)) (ve_var (pv 6))) (va_cons (ve_var (pv 7)) va_nil))))))))))))
theorem ok_law_called (T : Txt G G.mg) {f : Addr} {fd : FuncData} (F : Fun G.K "_law_called" "_law_called" s_law_called f fd) (C_begun : Cal G.P G.w G G.mg G.base "begun" 5 4 m_begun) (C_newest : Cal G.P G.w G G.mg G.base "newest" 5 5 m_newest) (C_carried : Cal G.P G.w G G.mg G.base "carried" 5 4 m_carried) (C_age : Cal G.P G.w G G.mg G.base "age" 6 4 m_age) (C_ages : Cal G.P G.w G G.mg G.base "ages" 7 3 m_ages) (C_longest_wait : Cal G.P G.w G G.mg G.base "longest_wait" 7 3 m_longest_wait) (C_uses : Cal G.P G.w G G.mg G.base "uses" 7 3 m_uses) : FnOk G.P G.w G.K G.mg G.base CX0 8 f fd ["_law_way", "_law_given"] (spV G 2 m_law_called) :=
  fn_ok F sc_law_called fun c cdv A outer sh H E hG hr => by
    subst hG
    exact (vs_cons (vs_if (vt_cmp (od_eq hr.units) (ve_var (pv 0)) ve_int)
    (vs_one (vs_ret (ve_call C_begun rfl (hr.mono (by decide)) (va_cons (ve_ix rfl (ve_var (pv 1)) ve_int) (va_cons (ve_ix rfl (ve_var (pv 1)) ve_int) (va_cons (ve_ix rfl (ve_var (pv 1)) ve_int) (va_cons (ve_ix rfl (ve_var (pv 1)) ve_int) va_nil))))))) vs_nil)
    (vs_cons (vs_if (vt_cmp (od_eq hr.units) (ve_var (pv 0)) ve_int)
    (vs_one (vs_ret (ve_call C_newest rfl (hr.mono (by decide)) (va_cons (ve_ix rfl (ve_var (pv 1)) ve_int) (va_cons (ve_ix rfl (ve_var (pv 1)) ve_int) (va_cons (ve_ix rfl (ve_var (pv 1)) ve_int) (va_cons (ve_ix rfl (ve_var (pv 1)) ve_int) (va_cons (ve_ix rfl (ve_var (pv 1)) ve_int) va_nil)))))))) vs_nil)
    (vs_cons (vs_if (vt_cmp (od_eq hr.units) (ve_var (pv 0)) ve_int)
    (vs_one (vs_ret (ve_call C_carried rfl (hr.mono (by decide)) (va_cons (ve_ix rfl (ve_var (pv 1)) ve_int) (va_cons (ve_ix rfl (ve_var (pv 1)) ve_int) (va_cons (ve_ix rfl (ve_var (pv 1)) ve_int) (va_cons (ve_ix rfl (ve_var (pv 1)) ve_int) va_nil))))))) vs_nil)
    (vs_cons (vs_if (vt_cmp (od_eq hr.units) (ve_var (pv 0)) ve_int)
    (vs_one (vs_ret (ve_call C_age rfl (hr.mono (by decide)) (va_cons (ve_ix rfl (ve_var (pv 1)) ve_int) (va_cons (ve_ix rfl (ve_var (pv 1)) ve_int) (va_cons (ve_ix rfl (ve_var (pv 1)) ve_int) (va_cons (ve_ix rfl (ve_var (pv 1)) ve_int) va_nil))))))) vs_nil)
    (vs_cons (vs_if (vt_cmp (od_eq hr.units) (ve_var (pv 0)) ve_int)
    (vs_one (vs_ret (ve_call C_ages rfl (hr.mono (by decide)) (va_cons (ve_ix rfl (ve_var (pv 1)) ve_int) (va_cons (ve_ix rfl (ve_var (pv 1)) ve_int) (va_cons (ve_ix rfl (ve_var (pv 1)) ve_int) va_nil)))))) vs_nil)
    (vs_cons (vs_if (vt_cmp (od_eq hr.units) (ve_var (pv 0)) ve_int)
    (vs_one (vs_ret (ve_call C_longest_wait rfl (hr.mono (by decide)) (va_cons (ve_ix rfl (ve_var (pv 1)) ve_int) (va_cons (ve_ix rfl (ve_var (pv 1)) ve_int) (va_cons (ve_ix rfl (ve_var (pv 1)) ve_int) va_nil)))))) vs_nil)
    (vs_one (vs_ret (ve_call C_uses rfl (hr.mono (by decide)) (va_cons (ve_ix rfl (ve_var (pv 1)) ve_int) (va_cons (ve_ix rfl (ve_var (pv 1)) ve_int) (va_cons (ve_ix rfl (ve_var (pv 1)) ve_int) va_nil))))))))))))
theorem ok_law_kinds (T : Txt G G.mg) {f : Addr} {fd : FuncData} (F : Fun G.K "_law_kinds" "_law_kinds" s_law_kinds f fd)  : FnOk G.P G.w G.K G.mg G.base CX0 1 f fd ["_law_way"] (spV G 1 m_law_kinds) :=
  fn_ok F sc_law_kinds fun c cdv A outer sh H E hG hr => by
    subst hG
    exact (vs_cons (vs_if (vt_cmp (od_eq hr.units) (ve_var (pv 0)) ve_int)
    (vs_one (vs_ret (ve_lst (va_cons ve_int (va_cons ve_int (va_cons ve_int (va_cons ve_int va_nil))))))) vs_nil)
    (vs_cons (vs_if (vt_cmp (od_eq hr.units) (ve_var (pv 0)) ve_int)
    (vs_one (vs_ret (ve_lst (va_cons ve_int (va_cons ve_int (va_cons ve_int (va_cons ve_int (va_cons ve_int va_nil)))))))) vs_nil)
    (vs_one (vs_ret (ve_op od_add (ve_lst (va_cons ve_int (va_cons ve_int (va_cons ve_int va_nil)))) (ve_slice (ve_lst (va_cons ve_int va_nil)) vo_none (vo_some (ve_callT ca_int T.n_int bt_int (va_cons (ve_cmp od_lt (ve_var (pv 0)) ve_int) va_nil)))))))))
theorem ok_law_odd (T : Txt G G.mg) {f : Addr} {fd : FuncData} (F : Fun G.K "_law_odd" "_law_odd" s_law_odd f fd)  : FnOk G.P G.w G.K G.mg G.base CX0 1 f fd ["_law_kind", "_law_net", "_law_phases_here", "_law_path"] (spV G 4 m_law_odd) :=
  fn_ok F sc_law_odd fun c cdv A outer sh H E hG hr => by
    subst hG
    exact (vs_cons (vs_if (vt_cmp (od_eq hr.units) (ve_var (pv 0)) ve_int)
    (vs_one (vs_ret (ve_lst (va_cons ve_non (va_cons (ve_var (pv 1)) (va_cons (ve_lst va_nil) (va_cons ve_str (va_cons ve_int (va_cons ve_bl va_nil))))))))) vs_nil)
    (vs_cons (vs_if (vt_cmp (od_eq hr.units) (ve_var (pv 0)) ve_int)
    (vs_cons (vs_set (i := 4) sc_law_odd.nd (ve_lst (va_cons ve_non (va_cons (ve_callT ca_list T.n_list bt_list (va_cons (ve_var (pv 2)) va_nil)) (va_cons (ve_slice (ve_var (pv 2)) (vo_some ve_int) vo_none) (va_cons (ve_op od_add (ve_var (pv 2)) (ve_slice (ve_var (pv 2)) vo_none (vo_some ve_int))) (va_cons ve_int (va_cons (ve_tup va_nil) (va_cons ve_str (va_cons (ve_op od_add (ve_tup (va_cons (ve_tup (va_cons ve_int (va_cons ve_int va_nil))) va_nil)) (ve_slice (ve_var (pv 2)) (vo_some ve_int) vo_none)) va_nil))))))))))
    (vs_cons (vs_set (i := 4) sc_law_odd.nd (ve_op od_add (ve_var (pv 4)) (ve_lst (va_cons (ve_op od_add (ve_tup (va_cons (ve_tup (va_cons ve_int (va_cons (ve_op od_sub ve_int ve_int) va_nil))) va_nil)) (ve_slice (ve_var (pv 2)) (vo_some ve_int) vo_none)) (va_cons (ve_op od_add (ve_tup (va_cons ve_int va_nil)) (ve_slice (ve_var (pv 2)) (vo_some ve_int) vo_none)) (va_cons (ve_op od_add (ve_tup (va_cons (ve_tup (va_cons ve_int (va_cons ve_int (va_cons ve_int va_nil)))) va_nil)) (ve_slice (ve_var (pv 2)) (vo_some ve_int) vo_none)) (va_cons (ve_op od_add (ve_tup (va_cons (ve_lst (va_cons ve_int (va_cons ve_int va_nil))) va_nil)) (ve_slice (ve_var (pv 2)) (vo_some ve_int) vo_none)) va_nil)))))))
    (vs_one (vs_ret (ve_op od_add (ve_var (pv 4)) (ve_lst (va_cons (ve_op od_add (ve_slice (ve_var (pv 2)) vo_none (vo_some (ve_neg ve_int))) (ve_tup (va_cons (ve_tup (va_cons ve_bl (va_cons ve_int va_nil))) va_nil))) (va_cons (ve_op od_add (ve_slice (ve_var (pv 2)) vo_none (vo_some (ve_neg ve_int))) (ve_tup (va_cons (ve_tup (va_cons ve_int (va_cons ve_bl va_nil))) va_nil))) (va_cons (ve_op od_add (ve_slice (ve_var (pv 2)) vo_none (vo_some (ve_neg ve_int))) (ve_tup (va_cons ve_non va_nil))) va_nil))))))))) vs_nil)
    (vs_cons (vs_if (vt_cmp (od_eq hr.units) (ve_var (pv 0)) ve_int)
    (vs_one (vs_ret (ve_lst (va_cons ve_non (va_cons ve_int (va_cons ve_str (va_cons ve_str (va_cons (ve_lst (va_cons (ve_ix rfl (ve_ix rfl (ve_var (pv 1)) ve_int) ve_int) va_nil)) (va_cons ve_bl (va_cons (ve_tup (va_cons (ve_ix rfl (ve_ix rfl (ve_var (pv 1)) ve_int) ve_int) va_nil)) (va_cons (ve_var (pv 1)) va_nil))))))))))) vs_nil)
    (vs_cons (vs_if (vt_cmp (od_eq hr.units) (ve_var (pv 0)) ve_int)
    (vs_one (vs_ret (ve_lst (va_cons ve_non (va_cons (ve_lst va_nil) (va_cons (ve_callT ca_tuple T.n_tuple bt_tuple (va_cons (ve_var (pv 3)) va_nil)) (va_cons (ve_ix rfl (ve_var (pv 3)) ve_int) (va_cons (ve_lst (va_cons ve_str va_nil)) (va_cons (ve_op od_add (ve_var (pv 3)) (ve_lst (va_cons ve_str va_nil))) (va_cons (ve_op od_add (ve_lst (va_cons ve_non va_nil)) (ve_var (pv 3))) (va_cons ve_empD (va_cons (ve_lst (va_cons (ve_var (pv 3)) va_nil)) (va_cons (ve_lst (va_cons ve_str (va_cons ve_str va_nil))) va_nil))))))))))))) vs_nil)
    (vs_one (vs_ret (ve_lst (va_cons ve_non (va_cons ve_bl (va_cons ve_bl (va_cons ve_str (va_cons (ve_lst (va_cons ve_int va_nil)) (va_cons (ve_tup (va_cons ve_int va_nil)) (va_cons (ve_tup (va_cons ve_int (va_cons ve_int va_nil))) va_nil))))))))))))))
theorem okx_check_net (T : Txt G G.mg) {f : Addr} {fd : FuncData} (F : Fun G.K "check_net" "check_net" s_check_net f fd) (CE_InvalidNet : CalE G.P G G.mg "InvalidNet" 3) : FnOk G.P G.w G.K G.mg G.base (L2.CX G.P G.w) 2 f fd ["value"] (spX G 1 mx_check_net) :=
  fn_okX F sc_check_net fun c cdv A outer sh H E W hG hr tk => by
    subst hG
    exact (x_one (x_if (vt_not (vt_val (ve_isCX 1 T.n_isinstance (ve_un (ve_var (pv 0))) T.g1 T.c1 T.nbi1)))
    (x_one (x_raise (lv := 0) CE_InvalidNet rfl tk rfl (hr.mono (by decide)) (ve_var (pv 0)))) x_nil))
theorem okx_check_phases (T : Txt G G.mg) {f : Addr} {fd : FuncData} (F : Fun G.K "check_phases" "check_phases" s_check_phases f fd) (CE_InvalidPhases : CalE G.P G G.mg "InvalidPhases" 4) (C_is_fraction : Cal G.P G.w G G.mg G.base "is_fraction" 2 1 m_is_fraction) : FnOk G.P G.w G.K G.mg G.base (L2.CX G.P G.w) 3 f fd ["net", "value"] (spX G 2 mx_check_phases) :=
  fn_okX F sc_check_phases fun c cdv A outer sh H E W hG hr tk => by
    subst hG
    exact (x_cons (x_if (PW.pt (vw_or (vt_not (vt_val (ve_isTy2 4 (by decide) T.n_isinstance (ve_un (ve_var (pv 1))) T.n_tuple bt_ty4))) (pw_or1 (vt_cmp (od_ne hr.units) (ve_callB (ca_len rfl) T.n_len bt_len (va_cons (ve_un (ve_var (pv 1))) va_nil)) (ve_callB (ca_len rfl) T.n_len bt_len (va_cons (ve_fld 1 0 (ve_un (ve_var (pv 0))) T.c1.cl T.a1_nodes T.l1_nodes) va_nil))))))
    (x_one (x_raise (lv := 0) CE_InvalidPhases rfl tk rfl (hr.mono (by decide)) (ve_var (pv 1)))) x_nil)
    (x_one (x_if (vt_cmp (od_ne hr.units) (ve_lc (own := [("one", 2)]) (.nm 2) rfl sc_check_phases.nd (vi_tup (ve_un (ve_var (pv 1)))) (blkOk_by (N := N_check_phases) (sc := defScope s_check_phases) (by decide +kernel)) rfl (fun _ _ _ _ _ => (pg_name (i := 2) sc_check_phases.nd rfl (Or.inl rfl))) (fun _ _ _ _ _ _ _ _ => (vts_one (vt_not (vt_val (ve_call C_is_fraction rfl (hr.mono (by decide)) (va_cons (ve_un (ve_var (pv 2))) va_nil)))))) (fun _ _ _ _ _ _ _ _ => (ve_un (ve_var (pv 2))))) (ve_lst va_nil))
    (x_one (x_raise (lv := 0) CE_InvalidPhases rfl tk rfl (hr.mono (by decide)) (ve_var (pv 1)))) x_nil)))
theorem okx_check_net_and_phases (T : Txt G G.mg) {f : Addr} {fd : FuncData} (F : Fun G.K "check_net_and_phases" "check_net_and_phases" s_check_net_and_phases f fd) (CR_check_net : CalR G.P G.w G G.mg G.base "check_net" 2 1 mx_check_net) (CR_check_phases : CalR G.P G.w G G.mg G.base "check_phases" 3 2 mx_check_phases) : FnOk G.P G.w G.K G.mg G.base (L2.CX G.P G.w) 4 f fd ["net", "phases"] (spX G 2 mx_check_net_and_phases) :=
  fn_okX F sc_check_net_and_phases fun c cdv A outer sh H E W hG hr tk => by
    subst hG
    exact (x_cons (x_drop (e_call CR_check_net rfl (hr.mono (by decide)) tk (va_cons (ve_var (pv 0)) va_nil)))
    (x_one (x_drop (e_call CR_check_phases rfl (hr.mono (by decide)) tk (va_cons (ve_var (pv 0)) (va_cons (ve_var (pv 1)) va_nil))))))
theorem okx_check_name (T : Txt G G.mg) {f : Addr} {fd : FuncData} (F : Fun G.K "check_name" "check_name" s_check_name f fd) (C_place_of : Cal G.P G.w G G.mg G.base "place_of" 1 2 m_place_of) (CE_InvalidName : CalE G.P G G.mg "InvalidName" 6) : FnOk G.P G.w G.K G.mg G.base (L2.CX G.P G.w) 2 f fd ["net", "name"] (spX G 2 mx_check_name) :=
  fn_okX F sc_check_name fun c cdv A outer sh H E W hG hr tk => by
    subst hG
    exact (x_one (x_if (vt_isN (ve_call C_place_of rfl (hr.mono (by decide)) (va_cons (ve_un (ve_var (pv 0))) (va_cons (ve_un (ve_var (pv 1))) va_nil))))
    (x_one (x_raise (lv := 0) CE_InvalidName rfl tk rfl (hr.mono (by decide)) (ve_var (pv 1)))) x_nil))
theorem okx_check_whole (T : Txt G G.mg) {f : Addr} {fd : FuncData} (F : Fun G.K "check_whole" "check_whole" s_check_whole f fd) (C_is_whole : Cal G.P G.w G G.mg G.base "is_whole" 1 1 m_is_whole) (CE_InvalidNumber : CalE G.P G G.mg "InvalidNumber" 7) : FnOk G.P G.w G.K G.mg G.base (L2.CX G.P G.w) 2 f fd ["value"] (spX G 1 mx_check_whole) :=
  fn_okX F sc_check_whole fun c cdv A outer sh H E W hG hr tk => by
    subst hG
    exact (x_one (x_if (vt_not (vt_val (ve_call C_is_whole rfl (hr.mono (by decide)) (va_cons (ve_un (ve_var (pv 0))) va_nil))))
    (x_one (x_raise (lv := 0) CE_InvalidNumber rfl tk rfl (hr.mono (by decide)) (ve_var (pv 0)))) x_nil))
theorem okx_begun (T : Txt G G.mg) {f : Addr} {fd : FuncData} (F : Fun G.K "begun" "begun" s_begun f fd) (CR_check_net_and_phases : CalR G.P G.w G G.mg G.base "check_net_and_phases" 4 2 mx_check_net_and_phases) (CR_check_name : CalR G.P G.w G G.mg G.base "check_name" 2 2 mx_check_name) (CR_check_whole : CalR G.P G.w G G.mg G.base "check_whole" 2 1 mx_check_whole) (C_in_units : Cal G.P G.w G G.mg G.base "in_units" 3 1 m_in_units) (C_place_of : Cal G.P G.w G G.mg G.base "place_of" 1 2 m_place_of) (C_time_begun : Cal G.P G.w G G.mg G.base "time_begun" 1 5 m_time_begun) (C_lowest : Cal G.P G.w G G.mg G.base "lowest" 2 2 m_lowest) : FnOk G.P G.w G.K G.mg G.base (L2.CX G.P G.w) 5 f fd ["net", "phases", "name", "run"] (spX G 4 mx_begun) :=
  fn_okX F sc_begun fun c cdv A outer sh H E W hG hr tk => by
    subst hG
    exact (x_cons (x_drop (e_call CR_check_net_and_phases rfl (hr.mono (by decide)) tk (va_cons (ve_var (pv 0)) (va_cons (ve_var (pv 1)) va_nil))))
    (x_cons (x_drop (e_call CR_check_name rfl (hr.mono (by decide)) tk (va_cons (ve_var (pv 0)) (va_cons (ve_var (pv 2)) va_nil))))
    (x_cons (x_drop (e_call CR_check_whole rfl (hr.mono (by decide)) tk (va_cons (ve_var (pv 3)) va_nil)))
    (x_cons (x_go (vs_tup [4, 5] (ve_call C_in_units rfl (hr.mono (by decide)) (va_cons (ve_un (ve_var (pv 1))) va_nil)) (pg_tup rfl (pgs_cons (pg_name (i := 4) sc_begun.nd rfl (Or.inl rfl)) (pgs_cons (pg_name (i := 5) sc_begun.nd rfl (Or.inl rfl)) pgs_nil)))))
    (x_one (x_go (vs_ret (ve_call C_lowest rfl (hr.mono (by decide)) (va_cons (ve_call C_time_begun rfl (hr.mono (by decide)) (va_cons (ve_un (ve_var (pv 0))) (va_cons (ve_un (ve_var (pv 4))) (va_cons (ve_un (ve_var (pv 5))) (va_cons (ve_call C_place_of rfl (hr.mono (by decide)) (va_cons (ve_un (ve_var (pv 0))) (va_cons (ve_un (ve_var (pv 2))) va_nil))) (va_cons (ve_un (ve_var (pv 3))) va_nil)))))) (va_cons (ve_un (ve_var (pv 5))) va_nil))))))))))
theorem okx_newest (T : Txt G G.mg) {f : Addr} {fd : FuncData} (F : Fun G.K "newest" "newest" s_newest f fd) (CR_check_net_and_phases : CalR G.P G.w G G.mg G.base "check_net_and_phases" 4 2 mx_check_net_and_phases) (CR_check_name : CalR G.P G.w G G.mg G.base "check_name" 2 2 mx_check_name) (C_place_of : Cal G.P G.w G G.mg G.base "place_of" 1 2 m_place_of) (CE_InvalidName : CalE G.P G G.mg "InvalidName" 6) (CR_check_whole : CalR G.P G.w G G.mg G.base "check_whole" 2 1 mx_check_whole) (C_in_units : Cal G.P G.w G G.mg G.base "in_units" 3 1 m_in_units) (C_run_read : Cal G.P G.w G G.mg G.base "run_read" 1 6 m_run_read) : FnOk G.P G.w G.K G.mg G.base (L2.CX G.P G.w) 5 f fd ["net", "phases", "reader", "name", "run"] (spX G 5 mx_newest) :=
  fn_okX F sc_newest fun c cdv A outer sh H E W hG hr tk => by
    subst hG
    exact (x_cons (x_drop (e_call CR_check_net_and_phases rfl (hr.mono (by decide)) tk (va_cons (ve_var (pv 0)) (va_cons (ve_var (pv 1)) va_nil))))
    (x_cons (x_drop (e_call CR_check_name rfl (hr.mono (by decide)) tk (va_cons (ve_var (pv 0)) (va_cons (ve_var (pv 2)) va_nil))))
    (x_cons (x_if (PW.pt (vw_or (vt_not (vt_val (ve_isTy2 2 (by decide) T.n_isinstance (ve_un (ve_var (pv 3))) T.n_str bt_ty2))) (pw_or1 (vt_cmp od_notin (ve_un (ve_var (pv 3))) (ve_fld 0 3 (ve_un (ve_ix rfl (ve_fld 1 0 (ve_un (ve_var (pv 0))) T.c1.cl T.a1_nodes T.l1_nodes) (ve_call C_place_of rfl (hr.mono (by decide)) (va_cons (ve_un (ve_var (pv 0))) (va_cons (ve_un (ve_var (pv 2))) va_nil))))) T.c0.cl T.a0_sources T.l0_sources)))))
    (x_one (x_raise (lv := 0) CE_InvalidName rfl tk rfl (hr.mono (by decide)) (ve_var (pv 3)))) x_nil)
    (x_cons (x_drop (e_call CR_check_whole rfl (hr.mono (by decide)) tk (va_cons (ve_var (pv 4)) va_nil)))
    (x_cons (x_go (vs_tup [5, 6] (ve_call C_in_units rfl (hr.mono (by decide)) (va_cons (ve_un (ve_var (pv 1))) va_nil)) (pg_tup rfl (pgs_cons (pg_name (i := 5) sc_newest.nd rfl (Or.inl rfl)) (pgs_cons (pg_name (i := 6) sc_newest.nd rfl (Or.inl rfl)) pgs_nil)))))
    (x_one (x_go (vs_ret (ve_call C_run_read rfl (hr.mono (by decide)) (va_cons (ve_un (ve_var (pv 0))) (va_cons (ve_un (ve_var (pv 5))) (va_cons (ve_un (ve_var (pv 6))) (va_cons (ve_call C_place_of rfl (hr.mono (by decide)) (va_cons (ve_un (ve_var (pv 0))) (va_cons (ve_un (ve_var (pv 2))) va_nil))) (va_cons (ve_call C_place_of rfl (hr.mono (by decide)) (va_cons (ve_un (ve_var (pv 0))) (va_cons (ve_un (ve_var (pv 3))) va_nil))) (va_cons (ve_un (ve_var (pv 4))) va_nil)))))))))))))))
theorem okx_check_path (T : Txt G G.mg) {f : Addr} {fd : FuncData} (F : Fun G.K "check_path" "check_path" s_check_path f fd) (C_place_of : Cal G.P G.w G G.mg G.base "place_of" 1 2 m_place_of) (CE_InvalidPath : CalE G.P G G.mg "InvalidPath" 5) : FnOk G.P G.w G.K G.mg G.base (L2.CX G.P G.w) 2 f fd ["net", "value"] (spX G 2 mx_check_path) :=
  fn_okX F sc_check_path fun c cdv A outer sh H E W hG hr tk => by
    subst hG
    exact (x_cons (x_if (PW.pt (vw_or (vt_not (vt_val (ve_isTy2 3 (by decide) T.n_isinstance (ve_un (ve_var (pv 1))) T.n_list bt_ty3))) (vw_or (vt_cmp (od_eqL hr.units) (ve_un (ve_var (pv 1))) (ve_lst va_nil)) (pw_or1 (vt_cmp (od_ne hr.units) (ve_lc (own := [("one", 2)]) (.nm 2) rfl sc_check_path.nd (vi_list (ve_un (ve_var (pv 1)))) (blkOk_by (N := N_check_path) (sc := defScope s_check_path) (by decide +kernel)) rfl (fun _ _ _ _ _ => (pg_name (i := 2) sc_check_path.nd rfl (Or.inl rfl))) (fun _ _ _ _ _ _ _ _ => (vts_one (vt_isN (ve_call C_place_of rfl (hr.mono (by decide)) (va_cons (ve_un (ve_var (pv 0))) (va_cons (ve_un (ve_var (pv 2))) va_nil)))))) (fun _ _ _ _ _ _ _ _ => (ve_un (ve_var (pv 2))))) (ve_lst va_nil))))))
    (x_one (x_raise (lv := 0) CE_InvalidPath rfl tk rfl (hr.mono (by decide)) (ve_var (pv 1)))) x_nil)
    (x_one (x_for (t := (.tp [2, 3])) (L2.passes_of rfl) rfl (vi_zip T.n_zip (va_cons (ve_un (ve_var (pv 1))) (va_cons (ve_slice (ve_un (ve_var (pv 1))) (vo_some ve_int) vo_none) va_nil))) (pg_tup rfl (pgs_cons (pg_name (i := 2) sc_check_path.nd rfl (Or.inl rfl)) (pgs_cons (pg_name (i := 3) sc_check_path.nd rfl (Or.inl rfl)) pgs_nil)))
    (x_one (x_if (vt_cmp od_notin (ve_un (ve_var (pv 2))) (ve_fld 0 3 (ve_un (ve_ix rfl (ve_fld 1 0 (ve_un (ve_var (pv 0))) T.c1.cl T.a1_nodes T.l1_nodes) (ve_call C_place_of rfl (hr.mono (by decide)) (va_cons (ve_un (ve_var (pv 0))) (va_cons (ve_un (ve_var (pv 3))) va_nil))))) T.c0.cl T.a0_sources T.l0_sources))
    (x_one (x_raise (lv := 0) CE_InvalidPath rfl tk rfl (hr.mono (by decide)) (ve_var (pv 1)))) x_nil)))))
theorem okx_carried (T : Txt G G.mg) {f : Addr} {fd : FuncData} (F : Fun G.K "carried" "carried" s_carried f fd) (CR_check_net_and_phases : CalR G.P G.w G G.mg G.base "check_net_and_phases" 4 2 mx_check_net_and_phases) (CR_check_path : CalR G.P G.w G G.mg G.base "check_path" 2 2 mx_check_path) (CR_check_whole : CalR G.P G.w G G.mg G.base "check_whole" 2 1 mx_check_whole) (C_in_units : Cal G.P G.w G G.mg G.base "in_units" 3 1 m_in_units) (C_places_of : Cal G.P G.w G G.mg G.base "places_of" 2 2 m_places_of) (C_run_carried : Cal G.P G.w G G.mg G.base "run_carried" 2 5 m_run_carried) : FnOk G.P G.w G.K G.mg G.base (L2.CX G.P G.w) 5 f fd ["net", "phases", "path", "run"] (spX G 4 mx_carried) :=
  fn_okX F sc_carried fun c cdv A outer sh H E W hG hr tk => by
    subst hG
    exact (x_cons (x_drop (e_call CR_check_net_and_phases rfl (hr.mono (by decide)) tk (va_cons (ve_var (pv 0)) (va_cons (ve_var (pv 1)) va_nil))))
    (x_cons (x_drop (e_call CR_check_path rfl (hr.mono (by decide)) tk (va_cons (ve_var (pv 0)) (va_cons (ve_var (pv 2)) va_nil))))
    (x_cons (x_drop (e_call CR_check_whole rfl (hr.mono (by decide)) tk (va_cons (ve_var (pv 3)) va_nil)))
    (x_cons (x_go (vs_tup [4, 5] (ve_call C_in_units rfl (hr.mono (by decide)) (va_cons (ve_un (ve_var (pv 1))) va_nil)) (pg_tup rfl (pgs_cons (pg_name (i := 4) sc_carried.nd rfl (Or.inl rfl)) (pgs_cons (pg_name (i := 5) sc_carried.nd rfl (Or.inl rfl)) pgs_nil)))))
    (x_one (x_go (vs_ret (ve_call C_run_carried rfl (hr.mono (by decide)) (va_cons (ve_un (ve_var (pv 0))) (va_cons (ve_un (ve_var (pv 4))) (va_cons (ve_un (ve_var (pv 5))) (va_cons (ve_call C_places_of rfl (hr.mono (by decide)) (va_cons (ve_un (ve_var (pv 0))) (va_cons (ve_un (ve_var (pv 2))) va_nil))) (va_cons (ve_un (ve_var (pv 3))) va_nil)))))))))))))
theorem okx_age (T : Txt G G.mg) {f : Addr} {fd : FuncData} (F : Fun G.K "age" "age" s_age f fd) (CR_carried : CalR G.P G.w G G.mg G.base "carried" 5 4 mx_carried) (C_in_units : Cal G.P G.w G G.mg G.base "in_units" 3 1 m_in_units) (C_places_of : Cal G.P G.w G G.mg G.base "places_of" 2 2 m_places_of) (C_age_of : Cal G.P G.w G G.mg G.base "age_of" 3 6 m_age_of) (C_lowest : Cal G.P G.w G G.mg G.base "lowest" 2 2 m_lowest) : FnOk G.P G.w G.K G.mg G.base (L2.CX G.P G.w) 6 f fd ["net", "phases", "path", "run"] (spX G 4 mx_age) :=
  fn_okX F sc_age fun c cdv A outer sh H E W hG hr tk => by
    subst hG
    exact (x_cons (x_set (i := 4) sc_age.nd (e_call CR_carried rfl (hr.mono (by decide)) tk (va_cons (ve_var (pv 0)) (va_cons (ve_var (pv 1)) (va_cons (ve_var (pv 2)) (va_cons (ve_var (pv 3)) va_nil))))))
    (x_cons (x_go (vs_tup [5, 6] (ve_call C_in_units rfl (hr.mono (by decide)) (va_cons (ve_un (ve_var (pv 1))) va_nil)) (pg_tup rfl (pgs_cons (pg_name (i := 5) sc_age.nd rfl (Or.inl rfl)) (pgs_cons (pg_name (i := 6) sc_age.nd rfl (Or.inl rfl)) pgs_nil)))))
    (x_one (x_go (vs_ret (ve_call C_lowest rfl (hr.mono (by decide)) (va_cons (ve_call C_age_of rfl (hr.mono (by decide)) (va_cons (ve_un (ve_var (pv 0))) (va_cons (ve_un (ve_var (pv 5))) (va_cons (ve_un (ve_var (pv 6))) (va_cons (ve_call C_places_of rfl (hr.mono (by decide)) (va_cons (ve_un (ve_var (pv 0))) (va_cons (ve_un (ve_var (pv 2))) va_nil))) (va_cons (ve_un (ve_var (pv 3))) (va_cons (ve_un (ve_var (pv 4))) va_nil))))))) (va_cons (ve_un (ve_var (pv 6))) va_nil))))))))
theorem okx_ages (T : Txt G G.mg) {f : Addr} {fd : FuncData} (F : Fun G.K "ages" "ages" s_ages f fd) (CR_check_net_and_phases : CalR G.P G.w G G.mg G.base "check_net_and_phases" 4 2 mx_check_net_and_phases) (CR_check_path : CalR G.P G.w G G.mg G.base "check_path" 2 2 mx_check_path) (C_in_units : Cal G.P G.w G G.mg G.base "in_units" 3 1 m_in_units) (C_places_of : Cal G.P G.w G G.mg G.base "places_of" 2 2 m_places_of) (C_all_ages : Cal G.P G.w G G.mg G.base "all_ages" 6 4 m_all_ages) (C_lowest : Cal G.P G.w G G.mg G.base "lowest" 2 2 m_lowest) : FnOk G.P G.w G.K G.mg G.base (L2.CX G.P G.w) 7 f fd ["net", "phases", "path"] (spX G 3 mx_ages) :=
  fn_okX F sc_ages fun c cdv A outer sh H E W hG hr tk => by
    subst hG
    exact (x_cons (x_drop (e_call CR_check_net_and_phases rfl (hr.mono (by decide)) tk (va_cons (ve_var (pv 0)) (va_cons (ve_var (pv 1)) va_nil))))
    (x_cons (x_drop (e_call CR_check_path rfl (hr.mono (by decide)) tk (va_cons (ve_var (pv 0)) (va_cons (ve_var (pv 2)) va_nil))))
    (x_cons (x_go (vs_tup [3, 4] (ve_call C_in_units rfl (hr.mono (by decide)) (va_cons (ve_un (ve_var (pv 1))) va_nil)) (pg_tup rfl (pgs_cons (pg_name (i := 3) sc_ages.nd rfl (Or.inl rfl)) (pgs_cons (pg_name (i := 4) sc_ages.nd rfl (Or.inl rfl)) pgs_nil)))))
    (x_cons (x_go (vs_set (i := 5) sc_ages.nd (ve_callB (ca_sorted) T.n_sorted bt_sorted (va_cons (ve_lc (own := [("one", 6)]) (.nm 6) rfl sc_ages.nd (vi_list (ve_call C_all_ages rfl (hr.mono (by decide)) (va_cons (ve_un (ve_var (pv 0))) (va_cons (ve_un (ve_var (pv 3))) (va_cons (ve_un (ve_var (pv 4))) (va_cons (ve_call C_places_of rfl (hr.mono (by decide)) (va_cons (ve_un (ve_var (pv 0))) (va_cons (ve_un (ve_var (pv 2))) va_nil))) va_nil)))))) (blkOk_by (N := N_ages) (sc := defScope s_ages) (by decide +kernel)) rfl (fun _ _ _ _ _ => (pg_name (i := 6) sc_ages.nd rfl (Or.inl rfl))) (fun _ _ _ _ _ _ _ _ => vts_nil) (fun _ _ _ _ _ _ _ _ => (ve_callT ca_int T.n_int bt_int (va_cons (ve_un (ve_var (pv 6))) va_nil)))) va_nil))))
    (x_one (x_go (vs_ret (ve_tup (va_cons (ve_call C_lowest rfl (hr.mono (by decide)) (va_cons (ve_un (ve_ix rfl (ve_un (ve_var (pv 5))) ve_int)) (va_cons (ve_un (ve_var (pv 4))) va_nil))) (va_cons (ve_call C_lowest rfl (hr.mono (by decide)) (va_cons (ve_un (ve_ix rfl (ve_un (ve_var (pv 5))) (ve_neg ve_int))) (va_cons (ve_un (ve_var (pv 4))) va_nil))) va_nil))))))))))
theorem okx_longest_wait (T : Txt G G.mg) {f : Addr} {fd : FuncData} (F : Fun G.K "longest_wait" "longest_wait" s_longest_wait f fd) (CR_check_net_and_phases : CalR G.P G.w G G.mg G.base "check_net_and_phases" 4 2 mx_check_net_and_phases) (CR_check_path : CalR G.P G.w G G.mg G.base "check_path" 2 2 mx_check_path) (C_in_units : Cal G.P G.w G G.mg G.base "in_units" 3 1 m_in_units) (C_places_of : Cal G.P G.w G G.mg G.base "places_of" 2 2 m_places_of) (C_greatest_wait : Cal G.P G.w G G.mg G.base "greatest_wait" 6 4 m_greatest_wait) (C_lowest : Cal G.P G.w G G.mg G.base "lowest" 2 2 m_lowest) : FnOk G.P G.w G.K G.mg G.base (L2.CX G.P G.w) 7 f fd ["net", "phases", "path"] (spX G 3 mx_longest_wait) :=
  fn_okX F sc_longest_wait fun c cdv A outer sh H E W hG hr tk => by
    subst hG
    exact (x_cons (x_drop (e_call CR_check_net_and_phases rfl (hr.mono (by decide)) tk (va_cons (ve_var (pv 0)) (va_cons (ve_var (pv 1)) va_nil))))
    (x_cons (x_drop (e_call CR_check_path rfl (hr.mono (by decide)) tk (va_cons (ve_var (pv 0)) (va_cons (ve_var (pv 2)) va_nil))))
    (x_cons (x_go (vs_tup [3, 4] (ve_call C_in_units rfl (hr.mono (by decide)) (va_cons (ve_un (ve_var (pv 1))) va_nil)) (pg_tup rfl (pgs_cons (pg_name (i := 3) sc_longest_wait.nd rfl (Or.inl rfl)) (pgs_cons (pg_name (i := 4) sc_longest_wait.nd rfl (Or.inl rfl)) pgs_nil)))))
    (x_one (x_go (vs_ret (ve_call C_lowest rfl (hr.mono (by decide)) (va_cons (ve_call C_greatest_wait rfl (hr.mono (by decide)) (va_cons (ve_un (ve_var (pv 0))) (va_cons (ve_un (ve_var (pv 3))) (va_cons (ve_un (ve_var (pv 4))) (va_cons (ve_call C_places_of rfl (hr.mono (by decide)) (va_cons (ve_un (ve_var (pv 0))) (va_cons (ve_un (ve_var (pv 2))) va_nil))) va_nil))))) (va_cons (ve_un (ve_var (pv 4))) va_nil)))))))))
theorem okx_uses (T : Txt G G.mg) {f : Addr} {fd : FuncData} (F : Fun G.K "uses" "uses" s_uses f fd) (CR_check_net_and_phases : CalR G.P G.w G G.mg G.base "check_net_and_phases" 4 2 mx_check_net_and_phases) (CR_check_path : CalR G.P G.w G G.mg G.base "check_path" 2 2 mx_check_path) (C_in_units : Cal G.P G.w G G.mg G.base "in_units" 3 1 m_in_units) (C_places_of : Cal G.P G.w G G.mg G.base "places_of" 2 2 m_places_of) (C_many_used : Cal G.P G.w G G.mg G.base "many_used" 6 4 m_many_used) (C_runs_in_turn : Cal G.P G.w G G.mg G.base "runs_in_turn" 4 2 m_runs_in_turn) : FnOk G.P G.w G.K G.mg G.base (L2.CX G.P G.w) 7 f fd ["net", "phases", "path"] (spX G 3 mx_uses) :=
  fn_okX F sc_uses fun c cdv A outer sh H E W hG hr tk => by
    subst hG
    exact (x_cons (x_drop (e_call CR_check_net_and_phases rfl (hr.mono (by decide)) tk (va_cons (ve_var (pv 0)) (va_cons (ve_var (pv 1)) va_nil))))
    (x_cons (x_drop (e_call CR_check_path rfl (hr.mono (by decide)) tk (va_cons (ve_var (pv 0)) (va_cons (ve_var (pv 2)) va_nil))))
    (x_cons (x_go (vs_tup [3, 4] (ve_call C_in_units rfl (hr.mono (by decide)) (va_cons (ve_un (ve_var (pv 1))) va_nil)) (pg_tup rfl (pgs_cons (pg_name (i := 3) sc_uses.nd rfl (Or.inl rfl)) (pgs_cons (pg_name (i := 4) sc_uses.nd rfl (Or.inl rfl)) pgs_nil)))))
    (x_cons (x_go (vs_set (i := 5) sc_uses.nd (ve_call C_places_of rfl (hr.mono (by decide)) (va_cons (ve_un (ve_var (pv 0))) (va_cons (ve_un (ve_var (pv 2))) va_nil)))))
    (x_cons (x_go (vs_par2 (i := 6) (j := 7) rfl sc_uses.nd (va_cons (ve_call C_many_used rfl (hr.mono (by decide)) (va_cons (ve_un (ve_var (pv 0))) (va_cons (ve_un (ve_var (pv 3))) (va_cons (ve_un (ve_var (pv 4))) (va_cons (ve_un (ve_var (pv 5))) va_nil))))) (va_cons (ve_call C_runs_in_turn rfl (hr.mono (by decide)) (va_cons (ve_un (ve_var (pv 0))) (va_cons (ve_un (ve_ix rfl (ve_un (ve_var (pv 5))) (ve_neg ve_int))) va_nil))) va_nil)) rfl))
    (x_one (x_go (vs_ret (ve_tup (va_cons (ve_un (ve_var (pv 6))) (va_cons (ve_op od_sub (ve_call C_runs_in_turn rfl (hr.mono (by decide)) (va_cons (ve_un (ve_var (pv 0))) (va_cons (ve_un (ve_ix rfl (ve_un (ve_var (pv 5))) ve_int)) va_nil))) (ve_un (ve_var (pv 6)))) (va_cons (ve_op od_sub (ve_un (ve_var (pv 7))) (ve_un (ve_var (pv 6)))) (va_cons (ve_un (ve_var (pv 7))) va_nil)))))))))))))
theorem okx_law_called (T : Txt G G.mg) {f : Addr} {fd : FuncData} (F : Fun G.K "_law_called" "_law_called" s_law_called f fd) (CR_begun : CalR G.P G.w G G.mg G.base "begun" 5 4 mx_begun) (CR_newest : CalR G.P G.w G G.mg G.base "newest" 5 5 mx_newest) (CR_carried : CalR G.P G.w G G.mg G.base "carried" 5 4 mx_carried) (CR_age : CalR G.P G.w G G.mg G.base "age" 6 4 mx_age) (CR_ages : CalR G.P G.w G G.mg G.base "ages" 7 3 mx_ages) (CR_longest_wait : CalR G.P G.w G G.mg G.base "longest_wait" 7 3 mx_longest_wait) (CR_uses : CalR G.P G.w G G.mg G.base "uses" 7 3 mx_uses) : FnOk G.P G.w G.K G.mg G.base (L2.CX G.P G.w) 8 f fd ["_law_way", "_law_given"] (spX G 2 mx_law_called) :=
  fn_okX F sc_law_called fun c cdv A outer sh H E W hG hr tk => by
    subst hG
    exact (x_cons (x_if (vt_cmp (od_eq hr.units) (ve_un (ve_var (pv 0))) ve_int)
    (x_one (x_ret (e_call CR_begun rfl (hr.mono (by decide)) tk (va_cons (ve_ix rfl (ve_un (ve_var (pv 1))) ve_int) (va_cons (ve_ix rfl (ve_un (ve_var (pv 1))) ve_int) (va_cons (ve_ix rfl (ve_un (ve_var (pv 1))) ve_int) (va_cons (ve_ix rfl (ve_un (ve_var (pv 1))) ve_int) va_nil))))))) x_nil)
    (x_cons (x_if (vt_cmp (od_eq hr.units) (ve_un (ve_var (pv 0))) ve_int)
    (x_one (x_ret (e_call CR_newest rfl (hr.mono (by decide)) tk (va_cons (ve_ix rfl (ve_un (ve_var (pv 1))) ve_int) (va_cons (ve_ix rfl (ve_un (ve_var (pv 1))) ve_int) (va_cons (ve_ix rfl (ve_un (ve_var (pv 1))) ve_int) (va_cons (ve_ix rfl (ve_un (ve_var (pv 1))) ve_int) (va_cons (ve_ix rfl (ve_un (ve_var (pv 1))) ve_int) va_nil)))))))) x_nil)
    (x_cons (x_if (vt_cmp (od_eq hr.units) (ve_un (ve_var (pv 0))) ve_int)
    (x_one (x_ret (e_call CR_carried rfl (hr.mono (by decide)) tk (va_cons (ve_ix rfl (ve_un (ve_var (pv 1))) ve_int) (va_cons (ve_ix rfl (ve_un (ve_var (pv 1))) ve_int) (va_cons (ve_ix rfl (ve_un (ve_var (pv 1))) ve_int) (va_cons (ve_ix rfl (ve_un (ve_var (pv 1))) ve_int) va_nil))))))) x_nil)
    (x_cons (x_if (vt_cmp (od_eq hr.units) (ve_un (ve_var (pv 0))) ve_int)
    (x_one (x_ret (e_call CR_age rfl (hr.mono (by decide)) tk (va_cons (ve_ix rfl (ve_un (ve_var (pv 1))) ve_int) (va_cons (ve_ix rfl (ve_un (ve_var (pv 1))) ve_int) (va_cons (ve_ix rfl (ve_un (ve_var (pv 1))) ve_int) (va_cons (ve_ix rfl (ve_un (ve_var (pv 1))) ve_int) va_nil))))))) x_nil)
    (x_cons (x_if (vt_cmp (od_eq hr.units) (ve_un (ve_var (pv 0))) ve_int)
    (x_one (x_ret (e_call CR_ages rfl (hr.mono (by decide)) tk (va_cons (ve_ix rfl (ve_un (ve_var (pv 1))) ve_int) (va_cons (ve_ix rfl (ve_un (ve_var (pv 1))) ve_int) (va_cons (ve_ix rfl (ve_un (ve_var (pv 1))) ve_int) va_nil)))))) x_nil)
    (x_cons (x_if (vt_cmp (od_eq hr.units) (ve_un (ve_var (pv 0))) ve_int)
    (x_one (x_ret (e_call CR_longest_wait rfl (hr.mono (by decide)) tk (va_cons (ve_ix rfl (ve_un (ve_var (pv 1))) ve_int) (va_cons (ve_ix rfl (ve_un (ve_var (pv 1))) ve_int) (va_cons (ve_ix rfl (ve_un (ve_var (pv 1))) ve_int) va_nil)))))) x_nil)
    (x_one (x_ret (e_call CR_uses rfl (hr.mono (by decide)) tk (va_cons (ve_ix rfl (ve_un (ve_var (pv 1))) ve_int) (va_cons (ve_ix rfl (ve_un (ve_var (pv 1))) ve_int) (va_cons (ve_ix rfl (ve_un (ve_var (pv 1))) ve_int) va_nil))))))))))))
theorem ok_law_refused (T : Txt G G.mg) {f : Addr} {fd : FuncData} (F : Fun G.K "_law_refused" "_law_refused" s_law_refused f fd)  (CR_law_called : CalR G.P G.w G G.mg G.base "_law_called" 8 2 mx_law_called) {spO : Sp} (len : ∀ us H Q E, spO us H Q E → us.length = 4) (hL : ∀ us H Q E, spO us H Q E → law_refused_T G { nx := fun _ H1 => Q .non H1, rt := Q } (L2.start N_law_refused us) H) : FnG G.P G.w G.K G.mg G.base 9 f fd ["_law_way", "_law_given", "_law_place", "_law_kind"] spO :=
  fnG_of F sc_law_refused len fun cdv A outer sh H us Q E hgd hr h => ⟨law_refused_T G, (pss_cons (ps_x fun c hG => by
    subst hG
    exact (vs_set (i := 4) sc_law_refused.nd ve_non))
  (pss_cons (ps_x fun c hG => by
    subst hG
    exact (v_tryE (i := 5) (j := 4) T.ct_AgedReadsError sc_law_refused.nd rfl (by decide)
    (fun W ps xe tk => (e_call CR_law_called rfl (hr.mono (by decide)) tk (va_cons (ve_var (pv 0)) (va_cons (ve_var (pv 1)) va_nil)))) (fun a oe ps => ps_set (i := 4) sc_law_refused.nd rfl (Or.inl rfl) (pv 5))))
  (pss_cons (ps_x fun c hG => by
    subst hG
    exact (vs_set (i := 6) sc_law_refused.nd (ve_lst (va_cons (ve_isXE T.xi_InvalidNet rfl T.n_isinstance (ve_un (ve_var (pv 4)))) (va_cons (ve_isXE T.xi_InvalidPhases rfl T.n_isinstance (ve_un (ve_var (pv 4)))) (va_cons (ve_isXE T.xi_InvalidName rfl T.n_isinstance (ve_un (ve_var (pv 4)))) va_nil))))))
  (pss_cons (ps_x fun c hG => by
    subst hG
    exact (vs_set (i := 6) sc_law_refused.nd (ve_op od_add (ve_un (ve_var (pv 6))) (ve_lst (va_cons (ve_isXE T.xi_InvalidPath rfl T.n_isinstance (ve_un (ve_var (pv 4)))) (va_cons (ve_isXE T.xi_InvalidNumber rfl T.n_isinstance (ve_un (ve_var (pv 4)))) va_nil))))))
  (pss_cons (ps_if (pt_x fun c hG => by
    subst hG
    exact (PW.pt (vw_or (vt_cmp (od_ne hr.units) (ve_lc (own := [("_law_at", 7)]) (.nm 7) rfl sc_law_refused.nd (vi_range1 T.n_range (va_cons ve_int va_nil)) (blkOk_by (N := N_law_refused) (sc := defScope s_law_refused) (by decide +kernel)) rfl (fun _ _ _ _ _ => (pg_name (i := 7) sc_law_refused.nd rfl (Or.inl rfl))) (fun _ _ _ _ _ _ _ _ => (vts_one (vt_val (ve_un (ve_ix rfl (ve_un (ve_var (pv 6))) (ve_un (ve_var (pv 7)))))))) (fun _ _ _ _ _ _ _ _ => (ve_un (ve_var (pv 7))))) (ve_lst (va_cons (ve_un (ve_var (pv 3))) va_nil))) (pw_or1 (vt_cmp (od_ne hr.units) (ve_callB (ca_show XShow.no hgd (hu100 hr)) T.n_repr bt_repr (va_cons (ve_un (ve_exF T.xv rfl (ve_un (ve_var (pv 4))))) va_nil)) (ve_callB (ca_show XShow.no hgd (hu100 hr)) T.n_repr bt_repr (va_cons (ve_un (ve_ix rfl (ve_un (ve_var (pv 1))) (ve_un (ve_var (pv 2))))) va_nil))))))) (pss_one (ps_x fun c hG => by
    subst hG
    exact (vs_ret ve_bl))) pss_nil)
  (pss_cons (ps_if (pt_x fun c hG => by
    subst hG
    exact (vt_val (ve_isTy2 3 (by decide) T.n_isinstance (ve_un (ve_ix rfl (ve_un (ve_var (pv 1))) (ve_un (ve_var (pv 2))))) T.n_list bt_ty3))) (pss_one (ps_appS (te := vtQ G law_refused_hb_7) (pe_x fun c hG => by
    subst hG
    exact (ve_ix rfl (ve_un (ve_var (pv 1))) (ve_un (ve_var (pv 2))))) rfl rfl rfl rfl rfl rfl vtQ_mono)) pss_nil)
  (pss_one (ps_x fun c hG => by
    subst hG
    exact (vs_ret (ve_cmp (od_eq hr.units) (ve_callB (ca_show XShow.no hgd (hu100 hr)) T.n_repr bt_repr (va_cons (ve_un (ve_exF T.xv rfl (ve_un (ve_var (pv 4))))) va_nil)) (ve_callB (ca_show XShow.no hgd (hu100 hr)) T.n_repr bt_repr (va_cons (ve_un (ve_ix rfl (ve_un (ve_var (pv 1))) (ve_un (ve_var (pv 2))))) va_nil)))))))))))), hL us H Q E h⟩
theorem ok_law_way_right (T : Txt G G.mg) {f : Addr} {fd : FuncData} (F : Fun G.K "_law_way_right" "_law_way_right" s_law_way_right f fd)  {sp_law_refused : Sp} (C__law_kinds : Cal G.P G.w G G.mg G.base "_law_kinds" 1 1 m_law_kinds) (C__law_odd : Cal G.P G.w G G.mg G.base "_law_odd" 1 4 m_law_odd) (CH_law_refused : CalH G.P G.w G G.mg G.base "_law_refused" 9 sp_law_refused) {spO : Sp} (len : ∀ us H Q E, spO us H Q E → us.length = 5) (hL : ∀ us H Q E, spO us H Q E → law_way_right_T G sp_law_refused { nx := fun _ H1 => Q .non H1, rt := Q } (L2.start N_law_way_right us) H) : FnG G.P G.w G.K G.mg G.base 10 f fd ["_law_way", "_law_right", "_law_net", "_law_phases_here", "_law_path"] spO :=
  fnG_of F sc_law_way_right len fun cdv A outer sh H us Q E hgd hr h => ⟨law_way_right_T G sp_law_refused, (pss_cons (ps_x fun c hG => by
    subst hG
    exact (vs_set (i := 5) sc_law_way_right.nd (ve_call C__law_kinds rfl (hr.mono (by decide)) (va_cons (ve_var (pv 0)) va_nil))))
  (pss_cons (ps_forQ (t := (.nm 6)) PassesOwn.never rfl (fun c hG => by
    subst hG
    exact (vif_range1 T.n_range (va_cons (ve_callB (ca_len rfl) T.n_len bt_len (va_cons (ve_var (pv 5)) va_nil)) va_nil))) (pg_name (i := 6) sc_law_way_right.nd rfl (Or.inl rfl))
  (pss_one (ps_forQ (t := (.nm 7)) PassesOwn.never rfl (fun c hG => by
    subst hG
    exact (vif_range1 T.n_range (va_cons (ve_callB (ca_len rfl) T.n_len bt_len (va_cons (ve_call C__law_odd rfl (hr.mono (by decide)) (va_cons (ve_ix rfl (ve_var (pv 5)) (ve_var (pv 6))) (va_cons (ve_var (pv 2)) (va_cons (ve_var (pv 3)) (va_cons (ve_var (pv 4)) va_nil))))) va_nil)) va_nil))) (pg_name (i := 7) sc_law_way_right.nd rfl (Or.inl rfl))
  (pss_cons (ps_x fun c hG => by
    subst hG
    exact (vs_ownL (i := 8) sc_law_way_right.nd T.n_list (ve_var (pv 1))))
  (pss_cons (ps_x fun c hG => by
    subst hG
    exact (vs_put (pv 8) (ve_var (pv 6)) (ve_ix rfl (ve_call C__law_odd rfl (hr.mono (by decide)) (va_cons (ve_ix rfl (ve_var (pv 5)) (ve_var (pv 6))) (va_cons (ve_var (pv 2)) (va_cons (ve_var (pv 3)) (va_cons (ve_var (pv 4)) va_nil))))) (ve_var (pv 7)))))
  (pss_cons (ps_if (pt_not (pt_val (pe_callH CH_law_refused rfl hgd (hr.mono (by decide)) (pa_x fun c hG => by
    subst hG
    exact (va_cons (ve_var (pv 0)) (va_cons (ve_listM (i := 8) T.n_list (pv 8)) (va_cons (ve_var (pv 6)) (va_cons (ve_ix rfl (ve_var (pv 5)) (ve_var (pv 6))) va_nil)))))) (by intro _; rfl))) (pss_one (ps_x fun c hG => by
    subst hG
    exact (vs_ret ve_bl))) pss_nil)
  (pss_cons (ps_x fun c hG => by
    subst hG
    exact (vs_put (pv 8) (ve_var (pv 6)) (ve_ix rfl (ve_call C__law_odd rfl (hr.mono (by decide)) (va_cons (ve_ix rfl (ve_var (pv 5)) (ve_var (pv 6))) (va_cons (ve_var (pv 2)) (va_cons (ve_var (pv 3)) (va_cons (ve_var (pv 4)) va_nil))))) (ve_var (pv 7)))))
  (pss_cons (ps_x fun c hG => by
    subst hG
    exact (vs_for (t := (.nm 9)) PassesOwn.never rfl (vi_range2 T.n_range (va_cons (ve_op od_add (ve_var (pv 6)) ve_int) (va_cons (ve_callB (ca_len rfl) T.n_len bt_len (va_cons (ve_var (pv 5)) va_nil)) va_nil))) (pg_name (i := 9) sc_law_way_right.nd rfl (Or.inl rfl))
    (vs_one (vs_put (pv 8) (ve_var (pv 9)) ve_non))))
  (pss_one (ps_if (pt_not (pt_val (pe_callH CH_law_refused rfl hgd (hr.mono (by decide)) (pa_x fun c hG => by
    subst hG
    exact (va_cons (ve_var (pv 0)) (va_cons (ve_var (pv 8)) (va_cons (ve_var (pv 6)) (va_cons (ve_ix rfl (ve_var (pv 5)) (ve_var (pv 6))) va_nil)))))) (by intro _; rfl))) (pss_one (ps_x fun c hG => by
    subst hG
    exact (vs_ret ve_bl))) pss_nil))))))))))
  (pss_one (ps_x fun c hG => by
    subst hG
    exact (vs_ret ve_bl))))), hL us H Q E h⟩
theorem ok_law (T : Txt G G.mg) {f : Addr} {fd : FuncData} (F : Fun G.K "law" "law" s_law f fd)  {sp_law_way_right : Sp} {sp_law_refused : Sp} (C__law_purse : CalM G.P G.w G G.mg G.base "_law_purse" 1 2 m_law_purse) (C__law_made : Cal G.P G.w G G.mg G.base "_law_made" 6 1 m_law_made) (C__law_phases : Cal G.P G.w G G.mg G.base "_law_phases" 3 2 m_law_phases) (C__law_run : Cal G.P G.w G G.mg G.base "_law_run" 3 1 m_law_run) (C__law_called : Cal G.P G.w G G.mg G.base "_law_called" 8 2 m_law_called) (CH_law_way_right : CalH G.P G.w G G.mg G.base "_law_way_right" 10 sp_law_way_right) (CH_law_refused : CalH G.P G.w G G.mg G.base "_law_refused" 9 sp_law_refused) (hL : LawOk G sp_law_way_right sp_law_refused) : FnG G.P G.w G.K G.mg G.base 11 f fd ["_law_script"] (spLaw G) :=
  fnG_of F sc_law (fun us H Q E ⟨a, ns, e, _⟩ => by subst e; rfl) fun cdv A outer sh H us Q E hgd hr h => ⟨lawT G sp_law_way_right sp_law_refused, (pss_cons (ps_x fun c hG => by
    subst hG
    exact (vs_ownC (i := 1) C__law_purse rfl (hr.mono (by decide)) sc_law.nd (va_cons (ve_var (pv 0)) (va_cons ve_int va_nil))))
  (pss_cons (ps_x fun c hG => by
    subst hG
    exact (vs_set (i := 2) sc_law.nd (ve_tup (va_cons (ve_tup (va_cons ve_str (va_cons ve_int (va_cons ve_int (va_cons (ve_tup va_nil) va_nil))))) (va_cons (ve_tup (va_cons ve_str (va_cons ve_int (va_cons ve_int (va_cons (ve_tup (va_cons ve_str va_nil)) va_nil))))) (va_cons (ve_tup (va_cons ve_str (va_cons ve_int (va_cons ve_int (va_cons (ve_tup (va_cons ve_str (va_cons ve_str va_nil))) va_nil))))) va_nil))))))
  (pss_cons (ps_x fun c hG => by
    subst hG
    exact (vs_tup [3, 4, 5] (ve_tup (va_cons (ve_call C__law_made rfl (hr.mono (by decide)) (va_cons (ve_var (pv 2)) va_nil)) (va_cons (ve_callM C__law_phases rfl (hr.mono (by decide)) (pv 1) (va_cons (ve_var (pv 2)) va_nil)) (va_cons (ve_lst (va_cons ve_str (va_cons ve_str (va_cons ve_str (va_cons ve_str va_nil))))) va_nil)))) (pg_tup rfl (pgs_cons (pg_name (i := 3) sc_law.nd rfl (Or.inr rfl)) (pgs_cons (pg_name (i := 4) sc_law.nd rfl (Or.inr rfl)) (pgs_cons (pg_name (i := 5) sc_law.nd rfl (Or.inr rfl)) pgs_nil))))))
  (pss_cons (ps_x fun c hG => by
    subst hG
    exact (vs_set (i := 6) sc_law.nd (ve_callM C__law_run rfl (hr.mono (by decide)) (pv 1) va_nil)))
  (pss_cons (ps_x fun c hG => by
    subst hG
    exact (vs_set (i := 7) sc_law.nd (ve_lst (va_cons (ve_lst (va_cons (ve_var (pv 3)) (va_cons (ve_var (pv 4)) (va_cons ve_str (va_cons (ve_var (pv 6)) va_nil))))) (va_cons (ve_lst (va_cons (ve_var (pv 3)) (va_cons (ve_var (pv 4)) (va_cons ve_str (va_cons ve_str (va_cons (ve_var (pv 6)) va_nil)))))) va_nil)))))
  (pss_cons (ps_x fun c hG => by
    subst hG
    exact (vs_set (i := 7) sc_law.nd (ve_op od_add (ve_op od_add (ve_var (pv 7)) (ve_lc (own := [("_law_way", 8)]) (.nm 8) rfl sc_law.nd (vi_range1 T.n_range (va_cons ve_int va_nil)) (blkOk_by (N := N_law) (sc := defScope s_law) (by decide +kernel)) rfl (fun _ _ _ _ _ => (pg_name (i := 8) sc_law.nd rfl (Or.inl rfl))) (fun _ _ _ _ _ _ _ _ => vts_nil) (fun _ _ _ _ _ _ _ _ => (ve_lst (va_cons (ve_var (pv 3)) (va_cons (ve_var (pv 4)) (va_cons (ve_var (pv 5)) (va_cons (ve_var (pv 6)) va_nil)))))))) (ve_lc (own := [("_law_way", 8)]) (.nm 8) rfl sc_law.nd (vi_range1 T.n_range (va_cons ve_int va_nil)) (blkOk_by (N := N_law) (sc := defScope s_law) (by decide +kernel)) rfl (fun _ _ _ _ _ => (pg_name (i := 8) sc_law.nd rfl (Or.inl rfl))) (fun _ _ _ _ _ _ _ _ => vts_nil) (fun _ _ _ _ _ _ _ _ => (ve_lst (va_cons (ve_var (pv 3)) (va_cons (ve_var (pv 4)) (va_cons (ve_var (pv 5)) va_nil)))))))))
  (pss_cons (ps_forQ (t := (.nm 8)) PassesOwn.never rfl (fun c hG => by
    subst hG
    exact (vif_range1 T.n_range (va_cons ve_int va_nil))) (pg_name (i := 8) sc_law.nd rfl (Or.inl rfl))
  (pss_cons (ps_x fun c hG => by
    subst hG
    exact (vs_drop (ve_call C__law_called rfl (hr.mono (by decide)) (va_cons (ve_var (pv 8)) (va_cons (ve_ix rfl (ve_var (pv 7)) (ve_var (pv 8))) va_nil)))))
  (pss_one (ps_if (pt_not (pt_val (pe_callH CH_law_way_right rfl hgd (hr.mono (by decide)) (pa_x fun c hG => by
    subst hG
    exact (va_cons (ve_var (pv 8)) (va_cons (ve_ix rfl (ve_var (pv 7)) (ve_var (pv 8))) (va_cons (ve_var (pv 2)) (va_cons (ve_var (pv 4)) (va_cons (ve_var (pv 5)) va_nil))))))) (by intro _; rfl))) (pss_one (ps_x fun c hG => by
    subst hG
    exact (vs_ret ve_bl))) pss_nil))))
  (pss_cons (ps_if (pt_not (pt_val (pe_callH CH_law_refused rfl hgd (hr.mono (by decide)) (pa_x fun c hG => by
    subst hG
    exact (va_cons ve_int (va_cons (ve_lst (va_cons (ve_var (pv 3)) (va_cons (ve_var (pv 4)) (va_cons ve_str (va_cons ve_str (va_cons (ve_var (pv 6)) va_nil)))))) (va_cons ve_int (va_cons ve_int va_nil)))))) (by intro _; rfl))) (pss_one (ps_x fun c hG => by
    subst hG
    exact (vs_ret ve_bl))) pss_nil)
  (pss_cons (ps_if (pt_not (pt_val (pe_callH CH_law_refused rfl hgd (hr.mono (by decide)) (pa_x fun c hG => by
    subst hG
    exact (va_cons ve_int (va_cons (ve_lst (va_cons (ve_var (pv 3)) (va_cons (ve_var (pv 4)) (va_cons ve_str (va_cons ve_str (va_cons (ve_var (pv 6)) va_nil)))))) (va_cons ve_int (va_cons ve_int va_nil)))))) (by intro _; rfl))) (pss_one (ps_x fun c hG => by
    subst hG
    exact (vs_ret ve_bl))) pss_nil)
  (pss_one (ps_ret (pe_and (pe_callH CH_law_refused rfl hgd (hr.mono (by decide)) (pa_x fun c hG => by
    subst hG
    exact (va_cons ve_int (va_cons (ve_lst (va_cons (ve_var (pv 3)) (va_cons (ve_var (pv 4)) (va_cons (ve_lst (va_cons ve_str (va_cons ve_str va_nil))) va_nil)))) (va_cons ve_int (va_cons ve_int va_nil)))))) (pe_one (pe_callH CH_law_refused rfl hgd (hr.mono (by decide)) (pa_x fun c hG => by
    subst hG
    exact (va_cons ve_int (va_cons (ve_lst (va_cons (ve_var (pv 3)) (va_cons (ve_var (pv 4)) (va_cons (ve_lst (va_cons ve_str (va_cons ve_str va_nil))) va_nil)))) (va_cons ve_int (va_cons ve_int va_nil))))))))))))))))))), hL us H Q E h⟩
end
end Toy

set_option Elab.async false
set_option linter.all false
set_option maxRecDepth 100000
set_option maxHeartbeats 8000000
namespace Toy
open PySem PySem.Spec PyProof.Rows L2 VS
def Sm (b : Nat) (i : Int) : Prop := i.natAbs < 2 ^ b
theorem Sm.bd {b : Nat} {i : Int} (h : Sm b i) (hb : b ≤ 4000) : Bd i := Nat.lt_of_lt_of_le h (Nat.pow_le_pow_right (by decide) hb)
theorem Sm.mono {b d : Nat} {i : Int} (h : Sm b i) (hb : b ≤ d) : Sm d i := Nat.lt_of_lt_of_le h (Nat.pow_le_pow_right (by decide) hb)
theorem Sm.mul {b d : Nat} {i j : Int} (h : Sm b i) (k : Sm d j) : Sm (b + d) (i * j) := by
  unfold Sm at *
  rw [Int.natAbs_mul, Nat.pow_add]
  exact Nat.mul_lt_mul'' h k
theorem Sm.add {b : Nat} {i j : Int} (h : Sm b i) (k : Sm b j) : Sm (b + 1) (i + j) := by
  unfold Sm at *
  rw [Nat.pow_succ]
  omega
theorem Sm.sub {b : Nat} {i j : Int} (h : Sm b i) (k : Sm b j) : Sm (b + 1) (i - j) := by
  unfold Sm at *
  rw [Nat.pow_succ]
  omega
theorem Sm.add' {b d e : Nat} {i j : Int} (h : Sm b i) (k : Sm d j) (hb : b < e) (hd : d < e) : Sm e (i + j) := by
  have := (h.mono (d := e - 1) (by omega)).add (k.mono (d := e - 1) (by omega))
  rwa [show e - 1 + 1 = e by omega] at this
theorem Sm.sub' {b d e : Nat} {i j : Int} (h : Sm b i) (k : Sm d j) (hb : b < e) (hd : d < e) : Sm e (i - j) := by
  have := (h.mono (d := e - 1) (by omega)).sub (k.mono (d := e - 1) (by omega))
  rwa [show e - 1 + 1 = e by omega] at this
theorem Sm.div {b : Nat} {i j : Int} (h : Sm b i) (k : 0 < j) : Sm (b + 1) (i / j) := by
  unfold Sm at *
  rw [Nat.pow_succ]
  have h1 : i / j * j ≤ i := Int.ediv_mul_le i (by omega)
  have h2 : i < i / j * j + j := by
    have := Int.lt_ediv_add_one_mul_self i k
    rwa [Int.add_mul, Int.one_mul] at this
  have h3 : (i / j).natAbs ≤ i.natAbs + 1 := by
    rcases Int.le_total 0 (i / j) with q | q
    · have : i / j * 1 ≤ i / j * j := Int.mul_le_mul_of_nonneg_left (by omega) q
      omega
    · have : i / j * j ≤ i / j * 1 := Int.mul_le_mul_of_nonpos_left q (by omega)
      by_cases z : i < 0
      · have : i ≤ i / j := by
          have a1 : i / j * j - i / j = (i / j) * (j - 1) := by rw [Int.mul_sub, Int.mul_one]
          rcases Int.lt_or_le (i / j) i with c | c
          · exfalso
            have : (i / j + 1) * j ≤ (i/j + 1) * 1 := Int.mul_le_mul_of_nonpos_left (by omega) (by omega)
            rw [Int.add_mul, Int.one_mul, Int.mul_one] at this
            omega
          · exact c
        omega
      · have : 0 ≤ i / j := Int.ediv_nonneg (by omega) (by omega)
        omega
  have : 0 < 2 ^ b := Nat.pow_pos (by decide)
  omega
structure Stp where
  nm : Str
  p : Int
  l : Int
  rd : List Str
abbrev Nt := List Stp
def stpD (s : Stp) : D := .ins 0 [.str s.nm, .int s.p, .int s.l, .tup (s.rd.map .str)]
def netD (ns : Nt) : D := .ins 1 [.tup (ns.map stpD)]
def pp (ns : Nt) (i : Nat) : Int := ((ns[i]?).map (·.p)).getD 1
def ll (ns : Nt) (i : Nat) : Int := ((ns[i]?).map (·.l)).getD 0
def ss (S : List Int) (i : Nat) : Int := (S[i]?).getD 0
theorem atI_nat {α : Type} (xs : List α) (i : Nat) : L2.atI xs (i : Int) = xs[i]? := by
  unfold L2.atI L2.ixN
  rw [if_pos (by omega)]
  by_cases h : (i : Int) < xs.length
  · rw [if_pos h]; rfl
  · rw [if_neg h, List.getElem?_eq_none (by omega)]; rfl
theorem gMul_eq {a b : Int} (h1 : Bd a) (h2 : Bd b) : gMul (.int a) (.int b) = some (.int (a * b)) := if_pos ⟨h1, h2⟩
theorem gFdiv_eq {a b : Int} (h1 : 0 < b) (h2 : Bd b) : gFdiv (.int a) (.int b) = some (.int (a / b)) := if_pos ⟨h1, h2⟩
theorem gMod_eq {a b : Int} (h1 : 0 < b) : gMod (.int a) (.int b) = some (.int (a % b)) := if_pos h1
theorem gAdd_eq {a b : Int} : gAdd (.int a) (.int b) = some (.int (a + b)) := rfl
theorem gSub_eq {a b : Int} : gSub (.int a) (.int b) = some (.int (a - b)) := rfl
theorem gIx_lst {xs : List D} {i : Int} : gIx (.lst xs) (.int i) = L2.atI xs i := rfl
theorem gIx_tup {xs : List D} {i : Int} : gIx (.tup xs) (.int i) = L2.atI xs i := rfl
theorem nodes_eq {ns : Nt} : gFld 1 0 (netD ns) = some (.tup (ns.map stpD)) := rfl
theorem turn_eq {s : Stp} : gFld 0 1 (stpD s) = some (.int s.p) := rfl
theorem lag_eq {s : Stp} : gFld 0 2 (stpD s) = some (.int s.l) := rfl
theorem name_eq {s : Stp} : gFld 0 0 (stpD s) = some (.str s.nm) := rfl
theorem srcs_eq {s : Stp} : gFld 0 3 (stpD s) = some (.tup (s.rd.map .str)) := rfl
theorem map_get {α β : Type} {f : α → β} {xs : List α} {i : Nat} {x : α} (h : xs[i]? = some x) : (xs.map f)[i]? = some (f x) := by rw [List.getElem?_map, h]; rfl
theorem time_begun_eq {ns : Nt} {S : List Int} {sc r : Int} {i : Nat} {s : Stp} {x : Int} (hi : ns[i]? = some s) (hx : S[i]? = some x) (b1 : Bd r) (b2 : Bd s.p) (b3 : Bd (r * s.p)) (b4 : Bd sc) :
    m_time_begun [.val (netD ns), .val (.lst (S.map .int)), .val (.int sc), .val (.int i), .val (.int r)] = some (.int (x + r * s.p * sc), []) := by
  have e1 := map_get (f := stpD) hi
  have e2 := map_get (f := D.int) hx
  simp only [m_time_begun, b_time_begun, mir, kRet, s2, s1, sV, List.length_cons, List.length_nil, List.cons_append, List.nil_append, List.replicate, List.getElem?_cons_zero, List.getElem?_cons_succ, gIx_lst, gIx_tup, nodes_eq, turn_eq, lag_eq, atI_nat, e1, e2, gMul_eq, b1, b2, b3, b4, gAdd_eq, outOf]
theorem time_written_eq {ns : Nt} {S : List Int} {sc r : Int} {i : Nat} {s : Stp} {x : Int} (hi : ns[i]? = some s) (hx : S[i]? = some x) (b1 : Bd r) (b2 : Bd s.p) (b3 : Bd (r * s.p)) (b4 : Bd sc) (b5 : Bd s.l) :
    m_time_written [.val (netD ns), .val (.lst (S.map .int)), .val (.int sc), .val (.int i), .val (.int r)] = some (.int (x + r * s.p * sc + s.l * sc), []) := by
  have e1 := map_get (f := stpD) hi
  have e2 := map_get (f := D.int) hx
  have e3 := time_begun_eq (sc := sc) hi hx b1 b2 b3 b4
  simp only [m_time_written, b_time_written, mir, kRet, s2, s1, sV, sCall, aC, aN, List.map_cons, List.map_nil, List.length_cons, List.length_nil, List.cons_append, List.nil_append, List.replicate, List.getElem?_cons_zero, List.getElem?_cons_succ, gIx_lst, gIx_tup, nodes_eq, turn_eq, lag_eq, atI_nat, e1, e2, e3, gMul_eq, b1, b2, b3, b4, b5, gAdd_eq, outOf, if_true]
theorem run_read_eq {ns : Nt} {S : List Int} {sc run : Int} {r q : Nat} {s t : Stp} {x y : Int} (hr : ns[r]? = some s) (hq : ns[q]? = some t) (hx : S[r]? = some x) (hy : S[q]? = some y) (b1 : Bd run) (b2 : Bd s.p) (b3 : Bd (run * s.p)) (b4 : Bd sc) (b5 : Bd t.l) (b6 : Bd t.p) (b7 : 0 < t.p * sc) (b8 : Bd (t.p * sc)) :
    m_run_read [.val (netD ns), .val (.lst (S.map .int)), .val (.int sc), .val (.int r), .val (.int q), .val (.int run)] = some (.int ((x + run * s.p * sc - y - t.l * sc) / (t.p * sc)), []) := by
  have e1 := map_get (f := stpD) hr
  have e2 := map_get (f := stpD) hq
  have e3 := map_get (f := D.int) hx
  have e4 := map_get (f := D.int) hy
  simp only [m_run_read, b_run_read, mir, kS, kSet, kRet, s2, s1, sV, List.length_cons, List.length_nil, List.cons_append, List.nil_append, List.replicate, List.getElem?_cons_zero, List.getElem?_cons_succ, List.set_cons_zero, List.set_cons_succ, gIx_lst, gIx_tup, nodes_eq, turn_eq, lag_eq, atI_nat, e1, e2, e3, e4, gMul_eq, gFdiv_eq, b1, b2, b3, b4, b5, b6, b7, b8, gAdd_eq, gSub_eq, outOf]
end Toy

set_option Elab.async false
set_option linter.all false
set_option maxRecDepth 100000
set_option maxHeartbeats 8000000
namespace Toy
open PySem PySem.Spec PyProof.Rows L2 VS
def gd (a b : Int) : Int := (Int.gcd a b : Int)
theorem gNe_int {a b : Int} : gNe (.int a) (.int b) = some (.bl (!decide (a = b))) := rfl
theorem gEq_int {a b : Int} : gEq (.int a) (.int b) = some (.bl (decide (a = b))) := rfl
theorem gGt_int {a b : Int} : gGt (.int a) (.int b) = some (.bl (decide (b < a))) := rfl
theorem gLt_int {a b : Int} : gLt (.int a) (.int b) = some (.bl (decide (a < b))) := rfl
theorem gGe_int {a b : Int} : gGe (.int a) (.int b) = some (.bl (decide (b ≤ a))) := rfl
theorem gInt_int {a : Int} : gInt [.int a] = some (.int a) := rfl
theorem gd_zero {a : Int} (h : 0 ≤ a) : gd a 0 = a := by unfold gd; rw [Int.gcd_zero_right]; omega
theorem gd_step {a b : Int} (ha : 0 ≤ a) (hb : 0 < b) : gd b (a % b) = gd a b := by
  obtain ⟨m, rfl⟩ := Int.eq_ofNat_of_zero_le ha
  obtain ⟨n, rfl⟩ := Int.eq_ofNat_of_zero_le (Int.le_of_lt hb)
  unfold gd
  have e : (m : Int) % (n : Int) = ((m % n : Nat) : Int) := (Int.natCast_emod m n).symm
  rw [e]
  unfold Int.gcd
  simp only [Int.natAbs_natCast]
  rw [Nat.gcd_comm n (m % n), ← Nat.gcd_rec n m, Nat.gcd_comm n m]
theorem gd_pos {a b : Int} (hb : 0 < b) : 0 < gd a b := by
  have : 0 < Int.gcd a b := Int.gcd_pos_of_ne_zero_right a (by omega)
  unfold gd
  omega
theorem gd_dvd_l (a b : Int) : gd a b ∣ a := Int.gcd_dvd_left ..
theorem gd_dvd_r (a b : Int) : gd a b ∣ b := Int.gcd_dvd_right ..
theorem cd_loop : ∀ (n : Nat) (a b : Int), 0 ≤ a → 0 ≤ b → b.natAbs < n →
    kWh (sB (s2 gNe (sV 1) (sK (.int 0)))) (kPar [0, 1] (aC (sV 1) (aC (s2 gMod (sL gInt (aC (sV 0) aN)) (sL gInt (aC (sV 1) aN))) aN))) n [.val (.int a), .val (.int b)] = some (.nx, [.val (.int (gd a b)), .val (.int 0)])
  | 0, _, _, _, _, h => by omega
  | n + 1, a, b, ha, hb, h => by
    unfold kWh
    simp only [sB, s2, sV, sK, List.getElem?_cons_zero, List.getElem?_cons_succ, gNe_int]
    by_cases e : b = 0
    · subst e
      simp [gd_zero ha]
    · have hb' : 0 < b := by omega
      simp only [e, decide_false, Bool.not_false, kPar, aC, aN, sV, s2, sL, List.getElem?_cons_zero, List.getElem?_cons_succ, gInt_int, gMod_eq hb', sets, List.set_cons_zero, List.set_cons_succ]
      have h1 := Int.emod_nonneg a (show b ≠ 0 by omega)
      have h2 := Int.emod_lt_of_pos a hb'
      rw [cd_loop n b (a % b) hb h1 (by omega), gd_step ha hb']
theorem common_divisor_eq {a b : Int} (ha : 0 ≤ a) (hb : 0 ≤ b) : m_common_divisor [.val (.int a), .val (.int b)] = some (.int (gd a b), []) := by
  have h := cd_loop (b.natAbs + 2) a b ha hb (by omega)
  simp only [m_common_divisor, b_common_divisor, mir, List.length_cons, List.length_nil, Nat.zero_add, Nat.reduceAdd, Nat.reduceSub, List.cons_append, List.nil_append, List.replicate, kS, kWhile, fuelI, List.getElem?_cons_zero, List.getElem?_cons_succ, h, kRet, sV, outOf]
def ab (a : Int) : Int := if a < 0 then -a else a
theorem ab_nonneg (a : Int) : 0 ≤ ab a := by unfold ab; split <;> omega
def lowD (a b : Int) : D := .tup [.int (a / gd (ab a) b), .int (b / gd (ab a) b)]
theorem gd_le {a b : Int} (hb : 0 < b) : gd a b ≤ b := Int.le_of_dvd hb (gd_dvd_r a b)
theorem gd_sm {k : Nat} {a b : Int} (hb : 0 < b) (h : Sm k b) : Sm k (gd a b) := by
  have h1 := gd_le (a := a) hb
  have h2 := gd_pos (a := a) hb
  unfold Sm at *
  omega
theorem gAbs_int {a : Int} : gAbs [.int a] = some (.int (ab a)) := rfl
theorem gTup2 {a b : D} : VS.gTup [a, b] = some (.tup [a, b]) := by
  unfold VS.gTup
  rw [if_pos (by show 2 ≤ 1000000; decide)]
theorem lowest_eq {a b : Int} (hb : 0 < b) (hs : Sm 3000 b) : m_lowest [.val (.int a), .val (.int b)] = some (lowD a b, []) := by
  have h := common_divisor_eq (a := ab a) (b := b) (ab_nonneg a) (by omega)
  have g1 := gd_pos (a := ab a) hb
  have g2 := (gd_sm (a := ab a) hb hs).bd (by decide)
  simp only [m_lowest, b_lowest, mir, List.length_cons, List.length_nil, Nat.zero_add, Nat.reduceAdd, Nat.reduceSub, List.cons_append, List.nil_append, List.replicate, kS, kSet, sCall, aC, aN, sL, sV, gAbs_int, List.map_cons, List.map_nil, if_true, List.set_cons_zero, List.set_cons_succ, List.getElem?_cons_zero, List.getElem?_cons_succ, h, kRet, s2, gFdiv_eq g1 g2, gTup2, outOf, lowD]
end Toy

set_option Elab.async false
set_option linter.all false
set_option maxRecDepth 100000
set_option maxHeartbeats 8000000
namespace Toy
open PySem PySem.Spec PyProof.Rows L2 VS
def PuB (k : Nat) (xs : List D) : Prop := ∃ a b c : Int, xs = [.int a, .int b, .int c] ∧ 0 ≤ a ∧ Sm 1400 a ∧ 0 ≤ b ∧ b < 2147483629 ∧ 0 ≤ c ∧ c ≤ (k : Int)
theorem PuB.mono {k n : Nat} {xs : List D} (h : PuB k xs) (l : k ≤ n) : PuB n xs := by
  obtain ⟨a, b, c, e, h1, h2, h3, h4, h5, h6⟩ := h
  exact ⟨a, b, c, e, h1, h2, h3, h4, h5, by omega⟩
theorem sm_of {k : Nat} {i : Int} (h0 : 0 ≤ i) (h : i < 2 ^ k) : Sm k i := by
  unfold Sm
  have : ((i.natAbs : Nat) : Int) < ((2 ^ k : Nat) : Int) := by
    rw [Int.natAbs_of_nonneg h0]
    push_cast
    exact h
  exact_mod_cast this
theorem sm_mod {k : Nat} {i j : Int} (h0 : 0 < j) (h : j ≤ 2 ^ k) : Sm k (i % j) := sm_of (Int.emod_nonneg i (by omega)) (by have := Int.emod_lt_of_pos i h0; omega)
theorem atI0 {a b c : D} : L2.atI [a, b, c] 0 = some a := rfl
theorem atI1 {a b c : D} : L2.atI [a, b, c] 1 = some b := rfl
theorem atI2 {a b c : D} : L2.atI [a, b, c] 2 = some c := rfl
theorem ixN0 : ixN 3 0 = some 0 := rfl
theorem ixN2 : ixN 3 2 = some 2 := rfl
theorem law_draw_eq {k : Nat} {xs : List D} {m : Int} (h : PuB k xs) (hk : k ≤ 1000000) (hm : 0 < m) (hs : Sm 3000 m) :
    ∃ d ys, m_law_draw [.bor xs, .val (.int m)] = some (.int d, ys) ∧ 0 ≤ d ∧ d < m ∧ PuB (k + 1) ys := by
  obtain ⟨a, b, c, rfl, ha, sa, hb, hb2, hc, hc2⟩ := h
  have bm := hs.bd (by decide)
  by_cases z : 0 < a
  · refine ⟨a % m, [.int (a / m), .int b, .int c], ?_, Int.emod_nonneg _ (by omega), Int.emod_lt_of_pos _ hm, _, _, _, rfl, Int.ediv_nonneg ha (by omega), ?_, hb, hb2, hc, by omega⟩
    · simp only [m_law_draw, b_law_draw, mir, List.length_cons, List.length_nil, Nat.zero_add, Nat.reduceAdd, Nat.reduceSub, List.cons_append, List.nil_append, List.replicate, kS, kIf, sB, s2, sL, aC, aN, sIxM, conM, sK, sV, List.getElem?_cons_zero, List.getElem?_cons_succ, atI0, gGt_int, z, decide_true, kSet, gInt_int, gMod_eq hm, List.set_cons_zero, List.set_cons_succ, kPut, gFdiv_eq hm bm, ixN0, setM, kRet, outOf]
    · have h1 := Int.ediv_le_self m ha
      have h2 : 0 ≤ a / m := Int.ediv_nonneg ha (by omega)
      unfold Sm at *
      omega
  · have st : Sm 21 (c + 1) := sm_of (by omega) (by omega)
    have sb : Sm 31 b := sm_of hb (by omega)
    have s1 : Sm 17 (104729 : Int) := sm_of (by decide) (by decide)
    have s3 : Sm 38 (104729 * (c + 1)) := s1.mul st
    have s4 : Sm 39 (b + 104729 * (c + 1)) := sb.add' s3 (by decide) (by decide)
    have s5 : Sm 42 ((c + 1) * (c + 1)) := st.mul st
    have s6 : Sm 43 ((c + 1) * (c + 1) + 7919) := s5.add' (sm_of (k := 13) (by decide) (by decide)) (by decide) (by decide)
    obtain ⟨u, hu⟩ : ∃ u, u = (b + 104729 * (c + 1)) * ((c + 1) * (c + 1) + 7919) % 2147483629 := ⟨_, rfl⟩
    have su : Sm 31 u := by rw [hu]; exact sm_mod (by decide) (by decide)
    obtain ⟨v, hv⟩ : ∃ v, v = (u * u + (c + 1)) % 2147483587 := ⟨_, rfl⟩
    have sv : Sm 31 v := by rw [hv]; exact sm_mod (by decide) (by decide)
    refine ⟨v * 48271 % 2147483647 / 64 % m, [.int a, .int b, .int (c + 1)], ?_, Int.emod_nonneg _ (by omega), Int.emod_lt_of_pos _ hm, _, _, _, rfl, ha, sa, hb, hb2, by omega, by omega⟩
    have b1 := s1.bd (by decide)
    have b2 := st.bd (by decide)
    have b3 := s4.bd (by decide)
    have b4 := s6.bd (by decide)
    have b5 := su.bd (by decide)
    have b6 := sv.bd (by decide)
    have b7 : Bd 48271 := (sm_of (k := 20) (by decide) (by decide) : Sm 20 48271).bd (by decide)
    have b8 : Bd 64 := (sm_of (k := 20) (by decide) (by decide) : Sm 20 64).bd (by decide)
    have p1 : (0 : Int) < 2147483629 := by decide
    have p2 : (0 : Int) < 2147483587 := by decide
    have p3 : (0 : Int) < 2147483647 := by decide
    have p4 : (0 : Int) < 64 := by decide
    simp only [m_law_draw, b_law_draw, mir, List.length_cons, List.length_nil, Nat.zero_add, Nat.reduceAdd, Nat.reduceSub, List.cons_append, List.nil_append, List.replicate, kS, kIf, sB, s2, sL, aC, aN, sIxM, conM, sK, sV, List.getElem?_cons_zero, List.getElem?_cons_succ, atI0, atI1, atI2, gGt_int, z, decide_false, kSet, kN, gInt_int, gAdd_eq, List.set_cons_zero, List.set_cons_succ, kPut, ixN2, setM, gMul_eq b1 b2, gMul_eq b2 b2, gMul_eq b3 b4, gMod_eq p1, ← hu, gMul_eq b5 b5, gMod_eq p2, ← hv, gMul_eq b6 b7, gMod_eq p3, gFdiv_eq p4 b8, gMod_eq hm, kRet, outOf]
theorem law_pick_eq {k : Nat} {xs : List D} {its : List D} (h : PuB k xs) (hk : k ≤ 1000000) (hl : 0 < its.length) (hl2 : its.length < 1000000) :
    ∃ (d : Nat) (x : D) (ys : List D), m_law_pick [.bor xs, .val (.lst its)] = some (x, ys) ∧ its[d]? = some x ∧ PuB (k + 1) ys := by
  obtain ⟨d, ys, e, h0, h1, hp⟩ := law_draw_eq (m := its.length) h hk (by omega) ((sm_of (k := 20) (by omega) (by omega)).mono (by decide))
  obtain ⟨n, rfl⟩ := Int.eq_ofNat_of_zero_le h0
  have hn : n < its.length := by omega
  refine ⟨n, its[n], ys, ?_, by simp [hn], hp⟩
  obtain ⟨a, b, c, rfl, _⟩ := h
  have e2 : its[n]? = some its[n] := by simp [hn]
  have e3 : gLen [.lst its] = some (.int its.length) := rfl
  simp only [m_law_pick, b_law_pick, mir, List.length_cons, List.length_nil, Nat.zero_add, Nat.reduceAdd, Nat.reduceSub, List.cons_append, List.nil_append, List.replicate, kRet, s2, sV, sCallM, conM, aC, aN, sL, e3, List.map_cons, List.map_nil, List.getElem?_cons_zero, List.getElem?_cons_succ, if_true, e, setM, List.set_cons_zero, gIx_lst, atI_nat, e2, outOf]
theorem pow_a : gPow (.int 10) (.int 18) = some (.int (10 ^ 18)) := by kernel_rfl
theorem pow_b : gPow (.int 10) (.int 40) = some (.int (10 ^ 40)) := by kernel_rfl
theorem pow_c : gPow (.int (10 ^ 40)) (.int 10) = some (.int (10 ^ 400)) := by kernel_rfl
theorem gMax2 {i j : Int} : gMax [.int i, .int j] = some (.int (if j > i then j else i)) := rfl
theorem purse_tail (cell : Int) : ∃ x y : Int, (∀ ρ : Rho, ρ[2]? = some (.val (.int cell)) → kRetL (aC (s2 gMod (sL gInt (aC (sL gMax (aC (s2 gSub (sV 2) (s2 gPow (sK (.int 10)) (sK (.int 18)))) (aC (sK (.int 0)) aN))) aN)) (s2 gPow (s2 gPow (sK (.int 10)) (sK (.int 40))) (sK (.int 10)))) (aC (s2 gMod (sL gInt (aC (sV 2) aN)) (sK (.int 2147483629))) (aC (sK (.int 0)) aN))) ρ = some (.rm [.int x, .int y, .int 0], ρ)) ∧ PuB 0 [.int x, .int y, .int 0] := by
  have p0 : (0 : Int) < 10 ^ 400 := by decide +kernel
  have p1 : (0 : Int) < 2147483629 := by decide
  have p2 : (10 : Int) ^ 400 ≤ 2 ^ 1400 := by decide +kernel
  refine ⟨(if 0 > cell - 10 ^ 18 then 0 else cell - 10 ^ 18) % 10 ^ 400, cell % 2147483629, fun ρ h => ?_, _, _, _, rfl, Int.emod_nonneg _ (by omega), sm_mod p0 p2, Int.emod_nonneg _ (by decide), Int.emod_lt_of_pos _ p1, by decide, by decide⟩
  simp only [kRetL, aC, aN, sL, s2, sV, sK, h, pow_a, pow_b, pow_c, gSub_eq, gMax2, gInt_int, gMod_eq p0, gMod_eq p1, List.length_cons, List.length_nil]
  rw [if_pos (by show 3 ≤ 1000000; decide)]
theorem law_purse_eq (ns : List Int) (i : Nat) : ∃ xs, m_law_purse [.val (.scr (ns.map .int)), .val (.int i)] = some xs ∧ PuB 0 xs := by
  have e3 : gLen [.scr (ns.map .int)] = some (.int ns.length) := by
    show some (D.int ((ns.map D.int).length : Int)) = _
    rw [List.length_map]
  by_cases z : (i : Int) < ns.length
  · have hi : i < ns.length := by omega
    obtain ⟨x, y, h, hp⟩ := purse_tail ns[i]
    have e2 : (ns.map D.int)[i]? = some (.int ns[i]) := by simp [hi]
    refine ⟨_, ?_, hp⟩
    simp only [m_law_purse, b_law_purse, mirM, List.length_cons, List.length_nil, Nat.zero_add, Nat.reduceAdd, Nat.reduceSub, List.cons_append, List.nil_append, List.replicate, kS, kSet, kIf, sB, s2, sL, aC, aN, sK, sV, List.getElem?_cons_zero, List.getElem?_cons_succ, List.set_cons_zero, List.set_cons_succ, e3, gLt_int, z, decide_true]
    have e4 : gIx (.scr (ns.map .int)) (.int i) = some (.int ns[i]) := by
      show L2.atI (ns.map D.int) (i : Int) = _
      rw [atI_nat, e2]
    simp only [e4, List.set_cons_zero, List.set_cons_succ]
    have h' := h [Sl.val (D.scr (ns.map .int)), Sl.val (D.int i), Sl.val (D.int ns[i])] rfl
    simp only [kRetL, aC, aN, sL, s2, sV, sK] at h' ⊢
    rw [h']
  · obtain ⟨x, y, h, hp⟩ := purse_tail 0
    refine ⟨_, ?_, hp⟩
    simp only [m_law_purse, b_law_purse, mirM, List.length_cons, List.length_nil, Nat.zero_add, Nat.reduceAdd, Nat.reduceSub, List.cons_append, List.nil_append, List.replicate, kS, kSet, kIf, kN, sB, s2, sL, aC, aN, sK, sV, List.getElem?_cons_zero, List.getElem?_cons_succ, List.set_cons_zero, List.set_cons_succ, e3, gLt_int, z, decide_false]
    have h' := h [Sl.val (D.scr (ns.map .int)), Sl.val (D.int i), Sl.val (D.int 0)] rfl
    simp only [kRetL, aC, aN, sL, s2, sV, sK] at h' ⊢
    rw [h']
end Toy

set_option Elab.async false
set_option linter.all false
set_option maxRecDepth 100000
set_option maxHeartbeats 8000000
namespace Toy
open PySem PySem.Spec PyProof.Rows L2 VS
def lc1 (f n : Int) : Int := f / gd f n * n
def lcmF : Int → List Int → Int
  | f, [] => f
  | f, n :: r => lcmF (lc1 f n) r
def lcmL (ns : List Int) : Int := lcmF 1 ns
theorem lc1_pos {f n : Int} (hf : 0 < f) (hn : 0 < n) : 0 < lc1 f n := by
  have g := gd_pos (a := f) hn
  have h : 0 < f / gd f n := Int.ediv_pos_of_pos_of_dvd hf (by omega) (gd_dvd_l f n)
  exact Int.mul_pos h hn
theorem lc1_dvd_l {f n : Int} : f ∣ lc1 f n := by
  obtain ⟨k, hk⟩ := gd_dvd_r f n
  refine ⟨k, ?_⟩
  unfold lc1
  have h := Int.ediv_mul_cancel (gd_dvd_l f n)
  calc f / gd f n * n = f / gd f n * (gd f n * k) := by rw [← hk]
    _ = f / gd f n * gd f n * k := by rw [Int.mul_assoc]
    _ = f * k := by rw [h]
theorem lc1_dvd_r {f n : Int} : n ∣ lc1 f n := ⟨f / gd f n, Int.mul_comm _ _⟩
theorem lc1_sm {k : Nat} {f n : Int} (hf : 0 < f) (hn : 0 < n) (h1 : Sm k f) (h2 : Sm 60 n) : Sm (k + 60) (lc1 f n) := by
  have g := gd_pos (a := f) hn
  have a1 := Int.ediv_le_self (gd f n) (Int.le_of_lt hf)
  have a2 : 0 ≤ f / gd f n := Int.ediv_nonneg (by omega) (by omega)
  have : Sm k (f / gd f n) := by
    unfold Sm at *
    omega
  exact this.mul h2
theorem lcmF_pos : ∀ {ns : List Int} {f : Int}, 0 < f → (∀ n ∈ ns, 0 < n) → 0 < lcmF f ns
  | [], _, h, _ => h
  | n :: r, f, h, q => lcmF_pos (ns := r) (lc1_pos h (q n List.mem_cons_self)) fun m hm => q m (List.mem_cons_of_mem _ hm)
theorem lcmF_dvd : ∀ {ns : List Int} {f : Int}, f ∣ lcmF f ns
  | [], f => Int.dvd_refl f
  | n :: r, f => Int.dvd_trans lc1_dvd_l (lcmF_dvd (ns := r))
theorem lcmF_mem : ∀ {ns : List Int} {f n : Int}, n ∈ ns → n ∣ lcmF f ns
  | m :: r, f, n, h => by
    rcases List.mem_cons.mp h with e | h
    · subst e; exact Int.dvd_trans lc1_dvd_r (lcmF_dvd (ns := r))
    · exact lcmF_mem (ns := r) h
theorem lcmF_sm : ∀ {ns : List Int} {k : Nat} {f : Int}, 0 < f → Sm k f → (∀ n ∈ ns, 0 < n ∧ Sm 60 n) → Sm (k + 60 * ns.length) (lcmF f ns)
  | [], k, f, _, h, _ => h
  | n :: r, k, f, h0, h, q => by
    have q1 := q n List.mem_cons_self
    have := lcmF_sm (ns := r) (lc1_pos h0 q1.1) (lc1_sm h0 q1.1 h q1.2) fun m hm => q m (List.mem_cons_of_mem _ hm)
    rw [show k + 60 * (n :: r).length = k + 60 + 60 * r.length by simp; omega]
    exact this
theorem cm_loop (L : Sl) : ∀ (ns : List Int) (k : Nat) (f : Int) (x : Sl), 0 < f → Sm k f → (∀ n ∈ ns, 0 < n ∧ Sm 60 n) → k + 60 * ns.length ≤ 3900 →
    ∃ y, kLoop (.nm 2) (kSet 1 (s2 gMul (s2 gFdiv (sV 1) (sCall 2 m_common_divisor (aC (sV 1) (aC (sV 2) aN)))) (sV 2))) (ns.map .int) [L, .val (.int f), x] = some (.nx, [L, .val (.int (lcmF f ns)), y])
  | [], k, f, x, _, _, _, _ => ⟨x, rfl⟩
  | n :: r, k, f, x, h0, h, q, hk => by
    have q1 := q n List.mem_cons_self
    have hk' : k + 60 + 60 * r.length ≤ 3900 := by simp at hk; omega
    obtain ⟨y, e⟩ := cm_loop L r (k + 60) (lc1 f n) (.val (.int n)) (lc1_pos h0 q1.1) (lc1_sm h0 q1.1 h q1.2) (fun m hm => q m (List.mem_cons_of_mem _ hm)) hk'
    refine ⟨y, ?_⟩
    have g1 := gd_pos (a := f) q1.1
    have g2 := (gd_sm (a := f) q1.1 q1.2).bd (by decide)
    have g3 : Bd (f / gd f n) := by
      have a1 := Int.ediv_le_self (gd f n) (Int.le_of_lt h0)
      have a2 : 0 ≤ f / gd f n := Int.ediv_nonneg (by omega) (by omega)
      have : Sm k (f / gd f n) := by
        unfold Sm at *
        omega
      exact this.bd (by omega)
    rw [List.map_cons]
    unfold kLoop
    simp only [tgt, List.set_cons_zero, List.set_cons_succ, kSet, s2, sV, sCall, aC, aN, List.getElem?_cons_zero, List.getElem?_cons_succ, List.map_cons, List.map_nil, List.length_cons, List.length_nil, if_true, common_divisor_eq (Int.le_of_lt h0) (Int.le_of_lt q1.1), gFdiv_eq g1 g2, gMul_eq g3 (q1.2.bd (by decide))]
    exact e
theorem common_multiple_eq {ns : List Int} (h : ∀ n ∈ ns, 0 < n ∧ Sm 60 n) (hl : ns.length ≤ 60) : m_common_multiple [.val (.lst (ns.map .int))] = some (.int (lcmL ns), []) := by
  obtain ⟨y, e⟩ := cm_loop (.val (.lst (ns.map .int))) ns 1 1 .no (by decide) (sm_of (by decide) (by decide)) h (by omega)
  simp only [m_common_multiple, b_common_multiple, mir, List.length_cons, List.length_nil, Nat.zero_add, Nat.reduceAdd, Nat.reduceSub, List.cons_append, List.nil_append, List.replicate, kS, kSet, sK, kFor, iSeq, sV, List.set_cons_zero, List.set_cons_succ, List.getElem?_cons_zero, List.getElem?_cons_succ, e, kRet, outOf, lcmL]
theorem cLoop_map {α : Type} {t : Tg} {tt : SB} {e : SE} {ρ : Rho} {g : α → D} {f : α → D} : ∀ {ds : List α}, (∀ d ∈ ds, turnC t tt e (g d) ρ = some (some (f d), ρ)) → cLoop t tt e (ds.map g) ρ = some (ds.map f, ρ)
  | [], _ => rfl
  | d :: r, h => by
    have ih := cLoop_map (g := g) (f := f) (ds := r) fun m hm => h m (List.mem_cons_of_mem _ hm)
    simp only [List.map_cons, cLoop, h d List.mem_cons_self, ih]
def Steps (ns : Nt) : Prop := (∀ s ∈ ns, 0 < s.p ∧ Sm 60 s.p ∧ Sm 60 s.l) ∧ ns.length ≤ 60
def turns (ns : Nt) : List Int := ns.map (·.p)
theorem whole_turn_eq {ns : Nt} (h : Steps ns) : m_whole_turn [.val (netD ns)] = some (.int (lcmL (turns ns)), []) := by
  have e := common_multiple_eq (ns := turns ns) (fun n hn => by
    obtain ⟨s, hs, rfl⟩ := List.mem_map.mp hn
    exact ⟨(h.1 s hs).1, (h.1 s hs).2.1⟩) (by simp [turns]; exact h.2)
  have c := cLoop_map (t := .nm 1) (tt := bYes) (e := s1 (gFld 0 1) (sV 1)) (ρ := [.val (netD ns), .no]) (g := stpD) (f := fun s => D.int s.p) (ds := ns) fun s _ => by
    simp only [turnC, okT, Tg.ix, List.all_cons, List.all_nil, List.getElem?_cons_succ, List.getElem?_cons_zero, Bool.and_true, if_true, blkR, wipeR, toB, List.map_cons, List.map_nil, tgt, List.set_cons_succ, List.set_cons_zero, bYes, s1, sV, turn_eq, restore, Option.map_some]
  have el : ns.map (fun s => D.int s.p) = (turns ns).map .int := by simp [turns]
  rw [el] at c
  have hl : ((turns ns).map D.int).length ≤ LN := by
    rw [List.length_map]
    have := h.2
    show (ns.map _).length ≤ 1000000
    rw [List.length_map]
    omega
  simp only [m_whole_turn, b_whole_turn, mir, List.length_cons, List.length_nil, Nat.zero_add, Nat.reduceAdd, Nat.reduceSub, List.cons_append, List.nil_append, List.replicate, kRet, sCall, aC, aN, sComp, iTupl, s1, sV, List.getElem?_cons_zero, List.getElem?_cons_succ, nodes_eq, c]
  rw [if_pos hl]
  simp only [List.map_cons, List.map_nil, List.length_cons, List.length_nil, Nat.zero_add, if_true, e, outOf]
theorem runs_in_turn_eq {ns : Nt} {i : Nat} {s : Stp} (h : Steps ns) (hi : ns[i]? = some s) : m_runs_in_turn [.val (netD ns), .val (.int i)] = some (.int (lcmL (turns ns) / s.p), []) := by
  have e1 := map_get (f := stpD) hi
  have hm := h.1 s (List.mem_of_getElem? hi)
  have e2 := whole_turn_eq h
  have b := hm.2.1.bd (by decide)
  simp only [m_runs_in_turn, b_runs_in_turn, mir, List.length_cons, List.length_nil, Nat.zero_add, Nat.reduceAdd, Nat.reduceSub, List.cons_append, List.nil_append, List.replicate, kRet, sCall, aC, aN, s1, s2, sV, List.getElem?_cons_zero, List.getElem?_cons_succ, List.map_cons, List.map_nil, if_true, nodes_eq, e2, gIx_tup, atI_nat, e1, turn_eq, gFdiv_eq hm.1 b, outOf]
end Toy

set_option Elab.async false
set_option linter.all false
set_option maxRecDepth 100000
set_option maxHeartbeats 8000000
namespace Toy
open PySem PySem.Spec PyProof.Rows L2 VS
structure Ask (ns : Nt) (S : List Int) (sc : Int) (P : List Nat) (m : Nat) : Prop where
  st : Steps ns
  len : S.length = ns.length
  bS : ∀ x ∈ S, Sm 500 x
  c0 : 0 < sc
  bc : Sm 400 sc
  pl : P.length = m + 1
  pm : m ≤ 6
  pi : ∀ i ∈ P, i < ns.length
  lc : lcmL (turns ns) ≤ 100000
def rr (ns : Nt) (S : List Int) (sc : Int) (r q : Nat) (run : Int) : Int := (ss S r + run * pp ns r * sc - ss S q - ll ns q * sc) / (pp ns q * sc)
def atP (P : List Nat) (i : Nat) : Nat := (P[i]?).getD 0
def carry (ns : Nt) (S : List Int) (sc : Int) (P : List Nat) : Nat → Int → Int
  | 0, run => run
  | k + 1, run => carry ns S sc P k (rr ns S sc (atP P (k + 1)) (atP P k) run)
section
variable {ns : Nt} {S : List Int} {sc : Int} {P : List Nat} {m : Nat}
theorem Ask.step (A : Ask ns S sc P m) {i : Nat} (h : i < ns.length) : ∃ s, ns[i]? = some s ∧ pp ns i = s.p ∧ ll ns i = s.l ∧ 0 < s.p ∧ Sm 60 s.p ∧ Sm 60 s.l := by
  have e : ns[i]? = some ns[i] := by simp [h]
  have q := A.st.1 ns[i] (List.getElem_mem h)
  exact ⟨ns[i], e, by simp [pp, e], by simp [ll, e], q⟩
theorem Ask.start (A : Ask ns S sc P m) {i : Nat} (h : i < ns.length) : ∃ x, S[i]? = some x ∧ ss S i = x ∧ Sm 500 x := by
  have h2 : i < S.length := by rw [A.len]; exact h
  have e : S[i]? = some S[i] := by simp [h2]
  exact ⟨S[i], e, by simp [ss, e], A.bS _ (List.getElem_mem h2)⟩
theorem Ask.place (A : Ask ns S sc P m) {i : Nat} (h : i ≤ m) : P[i]? = some (atP P i) ∧ atP P i < ns.length := by
  have h2 : i < P.length := by rw [A.pl]; omega
  have e : P[i]? = some P[i] := by simp [h2]
  have e2 : atP P i = P[i] := by simp [atP, e]
  rw [e2]
  exact ⟨e, A.pi _ (List.getElem_mem h2)⟩
theorem Ask.read (A : Ask ns S sc P m) {r q b : Nat} {run : Int} (hr : r < ns.length) (hq : q < ns.length) (h : Sm b run) (hb : 100 ≤ b) (hb2 : b ≤ 3400) :
    m_run_read [.val (netD ns), .val (.lst (S.map .int)), .val (.int sc), .val (.int r), .val (.int q), .val (.int run)] = some (.int (rr ns S sc r q run), []) ∧ Sm (b + 465) (rr ns S sc r q run) := by
  obtain ⟨s, e1, p1, l1, h1, h2, h3⟩ := A.step hr
  obtain ⟨t, e2, p2, l2, g1, g2, g3⟩ := A.step hq
  obtain ⟨x, e3, x1, x2⟩ := A.start hr
  obtain ⟨y, e4, y1, y2⟩ := A.start hq
  have pos : 0 < t.p * sc := Int.mul_pos g1 A.c0
  unfold rr
  rw [p1, p2, l2, x1, y1]
  refine ⟨run_read_eq e1 e2 e3 e4 (h.bd (by omega)) (h2.bd (by decide)) ((h.mul h2).bd (by omega)) (A.bc.bd (by decide)) (g3.bd (by decide)) (g2.bd (by decide)) pos ((g2.mul A.bc).bd (by decide)), ?_⟩
  have k1 := (h.mul h2).mul A.bc
  have k2 : Sm (b + 461) (x + run * s.p * sc) := x2.add' k1 (by omega) (by omega)
  have k3 : Sm (b + 462) (x + run * s.p * sc - y) := k2.sub' y2 (by omega) (by omega)
  have k4 : Sm (b + 463) (x + run * s.p * sc - y - t.l * sc) := k3.sub' (g3.mul A.bc) (by omega) (by omega)
  exact (k4.div pos).mono (by omega)
theorem rngD_succ (k : Nat) : rngD ((k + 1 : Nat) : Int) (k + 1) = .int ((k + 1 : Nat) : Int) :: rngD (k : Int) k := by
  unfold rngD
  rw [List.range_succ_eq_map, List.map_cons, List.map_map]
  have e : ((fun i : Nat => D.int (((k + 1 : Nat) : Int) - (i : Nat))) ∘ Nat.succ) = fun i : Nat => D.int ((k : Int) - (i : Nat)) := by
    funext i
    simp only [Function.comp_apply]
    congr 1
    omega
  rw [e]
  rfl
theorem gIx_nat {xs : List D} {i : Nat} : gIx (.lst xs) (.int (i : Nat)) = xs[i]? := atI_nat xs i
theorem rc_loop (A : Ask ns S sc P m) : ∀ (k b : Nat) (run : Int) (x : Sl), k ≤ m → Sm b run → 100 ≤ b → b + 465 * k ≤ 3400 →
    ∃ y, kLoop (.nm 5) (kSet 4 (sCall 6 m_run_read (aC (sV 0) (aC (sV 1) (aC (sV 2) (aC (s2 gIx (sV 3) (sV 5)) (aC (s2 gIx (sV 3) (s2 gSub (sV 5) (sK (.int 1)))) (aC (sV 4) aN)))))))) (rngD (k : Int) k)
      [.val (netD ns), .val (.lst (S.map .int)), .val (.int sc), .val (.lst (P.map fun i => .int (i : Nat))), .val (.int run), x] = some (.nx, [.val (netD ns), .val (.lst (S.map .int)), .val (.int sc), .val (.lst (P.map fun i => .int (i : Nat))), .val (.int (carry ns S sc P k run)), y])
      ∧ Sm (b + 465 * k) (carry ns S sc P k run)
  | 0, b, run, x, _, h, _, _ => ⟨x, rfl, h⟩
  | k + 1, b, run, x, hk, h, hb, hb2 => by
    obtain ⟨q1, q2⟩ := A.place hk
    obtain ⟨r1, r2⟩ := A.place (i := k) (by omega)
    obtain ⟨c1, c2⟩ := A.read q2 r2 h hb (by omega)
    obtain ⟨y, e, e2⟩ := rc_loop A k (b + 465) (rr ns S sc (atP P (k + 1)) (atP P k) run) (.val (.int ((k + 1 : Nat) : Int))) (by omega) c2 (by omega) (by omega)
    refine ⟨y, ?_, by unfold carry; rw [show b + 465 * (k + 1) = b + 465 + 465 * k by omega]; exact e2⟩
    have s1 : ((k + 1 : Nat) : Int) - 1 = (k : Nat) := by omega
    have m1 := map_get (f := fun i : Nat => D.int (i : Nat)) q1
    have m2 := map_get (f := fun i : Nat => D.int (i : Nat)) r1
    rw [rngD_succ]
    unfold kLoop
    simp only [tgt, List.set_cons_zero, List.set_cons_succ, kSet, s2, sV, sK, sCall, aC, aN, List.getElem?_cons_zero, List.getElem?_cons_succ, gIx_nat, gSub_eq, s1, m1, m2, List.map_cons, List.map_nil, List.length_cons, List.length_nil, if_true, c1]
    exact e
theorem gLen_lst {xs : List D} : gLen [.lst xs] = some (.int xs.length) := rfl
theorem gNeg_int {a : Int} : gNeg (.int a) = some (.int (-a)) := rfl
theorem run_carried_eq (A : Ask ns S sc P m) {b : Nat} {run : Int} (h : Sm b run) (hb : 100 ≤ b) (hb2 : b ≤ 600) :
    m_run_carried [.val (netD ns), .val (.lst (S.map .int)), .val (.int sc), .val (.lst (P.map fun i => .int (i : Nat))), .val (.int run)] = some (.int (carry ns S sc P m run), []) ∧ Sm 3400 (carry ns S sc P m run) := by
  have pm := A.pm
  obtain ⟨y, e, e2⟩ := rc_loop A m b run .no (Nat.le_refl _) h hb (by omega)
  refine ⟨?_, e2.mono (by omega)⟩
  have l1 : ((P.map fun i => D.int (i : Nat)).length : Int) - 1 = (m : Nat) := by rw [List.length_map, A.pl]; omega
  have l2 : small62 (m : Int) := ⟨by omega, by omega⟩
  have l4 : small62 0 := ⟨by decide, by decide⟩
  have l3 : ((m : Int) - 0).toNat = m := by omega
  simp only [m_run_carried, b_run_carried, mir, List.length_cons, List.length_nil, Nat.zero_add, Nat.reduceAdd, Nat.reduceSub, List.cons_append, List.nil_append, List.replicate, kS, kFor, iRD, aC, aN, s2, s1, sL, sV, sK, List.getElem?_cons_zero, List.getElem?_cons_succ, gLen_lst, gNeg_int, gSub_eq, l1, l2, l4, and_self, if_true, l3, e, kRet, outOf]
end
end Toy

set_option Elab.async false
set_option linter.all false
set_option maxRecDepth 100000
set_option maxHeartbeats 8000000
namespace Toy
open PySem PySem.Spec PyProof.Rows L2 VS
section
variable {ns : Nt} {S : List Int} {sc : Int} {P : List Nat} {m : Nat}
def manyR (ns : Nt) (P : List Nat) (m : Nat) : Nat := (lcmL (turns ns) / pp ns (atP P m)).toNat
theorem turns_pos (h : Steps ns) : 0 < lcmL (turns ns) := lcmF_pos (by decide) fun n hn => by
  obtain ⟨s, hs, rfl⟩ := List.mem_map.mp hn
  exact (h.1 s hs).1
theorem Ask.many (A : Ask ns S sc P m) {i : Nat} (h : i ≤ m) : lcmL (turns ns) / pp ns (atP P i) = (((lcmL (turns ns) / pp ns (atP P i)).toNat : Nat) : Int) ∧ (lcmL (turns ns) / pp ns (atP P i)).toNat ≤ 100000 := by
  obtain ⟨q1, q2⟩ := A.place h
  obtain ⟨s, e1, p1, l1, h1, h2, h3⟩ := A.step q2
  have t := turns_pos A.st
  have t2 := A.lc
  rw [p1]
  have a1 := Int.ediv_le_self s.p (Int.le_of_lt t)
  have a2 : 0 ≤ lcmL (turns ns) / s.p := Int.ediv_nonneg (by omega) (by omega)
  omega
theorem atI_m1 {α : Type} {xs : List α} {k : Nat} (h : xs.length = k + 1) : L2.atI xs (-1) = xs[k]? := by
  unfold L2.atI L2.ixN
  rw [if_neg (by decide), if_pos (by omega)]
  show xs[(-1 + (xs.length : Int)).toNat]? = xs[k]?
  congr 1
  omega
theorem Ask.runs (A : Ask ns S sc P m) {i : Nat} (h : i ≤ m) : m_runs_in_turn [.val (netD ns), .val (.int ((atP P i : Nat) : Int))] = some (.int (lcmL (turns ns) / pp ns (atP P i)), []) := by
  obtain ⟨q1, q2⟩ := A.place h
  obtain ⟨s, e1, p1, _⟩ := A.step q2
  rw [p1]
  exact runs_in_turn_eq A.st e1
theorem Ask.last (A : Ask ns S sc P m) : gIx (.lst (P.map fun i => D.int (i : Nat))) (.int (-1)) = some (.int (atP P m : Nat)) := by
  show L2.atI _ _ = _
  rw [atI_m1 (k := m) (by rw [List.length_map]; exact A.pl)]
  exact map_get (A.place (Nat.le_refl _)).1
theorem Ask.first (A : Ask ns S sc P m) : gIx (.lst (P.map fun i => D.int (i : Nat))) (.int 0) = some (.int (atP P 0 : Nat)) := by
  show L2.atI _ ((0 : Nat) : Int) = _
  rw [atI_nat]
  exact map_get (A.place (Nat.zero_le _)).1
end
end Toy

set_option Elab.async false
set_option linter.all false
set_option maxRecDepth 100000
set_option maxHeartbeats 8000000
namespace Toy
open PySem PySem.Spec PyProof.Rows L2 VS
theorem mir_rt {n : Nat} {s : SS} {sl : List Sl} {ρ0 ρ : Rho} {d : D} {o : List D} (h0 : sl ++ List.replicate (n - sl.length) .no = ρ0) (h : s ρ0 = some (.rt d, ρ)) (ho : outOf sl ρ = some o) : mir n s sl = some (d, o) := by
  unfold mir
  rw [h0, h]
  simp only [ho]
theorem mir_nx {n : Nat} {s : SS} {sl : List Sl} {ρ0 ρ : Rho} {o : List D} (h0 : sl ++ List.replicate (n - sl.length) .no = ρ0) (h : s ρ0 = some (.nx, ρ)) (ho : outOf sl ρ = some o) : mir n s sl = some (.non, o) := by
  unfold mir
  rw [h0, h]
  simp only [ho]
theorem kS_nx {a b : SS} {ρ ρ1 : Rho} {r : Option (Fl × Rho)} (h : a ρ = some (.nx, ρ1)) (h2 : b ρ1 = r) : kS a b ρ = r := by
  unfold kS
  rw [h]
  exact h2
theorem kRet_of {e : SE} {ρ ρ1 : Rho} {d : D} (h : e ρ = some (d, ρ1)) : kRet e ρ = some (.rt d, ρ1) := by
  unfold kRet
  rw [h]
theorem kSet_of {i : Nat} {e : SE} {ρ ρ1 : Rho} {d : D} (h : e ρ = some (d, ρ1)) : kSet i e ρ = some (.nx, ρ1.set i (.val d)) := by
  unfold kSet
  rw [h]
theorem kDrop_of {e : SE} {ρ ρ1 : Rho} {d : D} (h : e ρ = some (d, ρ1)) : kDrop e ρ = some (.nx, ρ1) := by
  unfold kDrop
  rw [h]
theorem kIf_f {t : SB} {a b : SS} {ρ ρ1 : Rho} {r : Option (Fl × Rho)} (h : t ρ = some (false, ρ1)) (h2 : b ρ1 = r) : kIf t a b ρ = r := by
  unfold kIf
  rw [h]
  exact h2
theorem kIf_t {t : SB} {a b : SS} {ρ ρ1 : Rho} {r : Option (Fl × Rho)} (h : t ρ = some (true, ρ1)) (h2 : a ρ1 = r) : kIf t a b ρ = r := by
  unfold kIf
  rw [h]
  exact h2
theorem sComp_of {it : SI} {t : Tg} {tt : SB} {e : SE} {ρ ρ1 ρ2 : Rho} {ds out : List D} (hi : it ρ = some (ds, ρ1)) (hc : cLoop t tt e ds ρ1 = some (out, ρ2)) (hl : out.length ≤ LN) : sComp it t tt e ρ = some (.lst out, ρ2) := by
  unfold sComp
  rw [hi]
  simp only [hc]
  rw [if_pos hl]
theorem kFor_of {it : SI} {t : Tg} {b : SS} {ρ ρ1 : Rho} {ds : List D} {r : Option (Fl × Rho)} (hi : it ρ = some (ds, ρ1)) (h : kLoop t b ds ρ1 = r) : kFor it t b ρ = r := by
  unfold kFor
  rw [hi]
  exact h
theorem s1_of {g : G1} {a : SE} {ρ ρ1 : Rho} {x d : D} (h : a ρ = some (x, ρ1)) (hg : g x = some d) : s1 g a ρ = some (d, ρ1) := by
  unfold s1
  rw [h]
  simp only [hg]
theorem s2_of {g : G2} {a b : SE} {ρ ρ1 ρ2 : Rho} {x y d : D} (h : a ρ = some (x, ρ1)) (h2 : b ρ1 = some (y, ρ2)) (hg : g x y = some d) : s2 g a b ρ = some (d, ρ2) := by
  unfold s2
  rw [h]
  simp only [h2, hg]
theorem sL_of {g : GL} {a : SA} {ρ ρ1 : Rho} {xs : List D} {d : D} (h : a ρ = some (xs, ρ1)) (hg : g xs = some d) : sL g a ρ = some (d, ρ1) := by
  unfold sL
  rw [h]
  simp only [hg]
theorem aC_of {a : SE} {r : SA} {ρ ρ1 ρ2 : Rho} {x : D} {xs : List D} (h : a ρ = some (x, ρ1)) (h2 : r ρ1 = some (xs, ρ2)) : aC a r ρ = some (x :: xs, ρ2) := by
  unfold aC
  rw [h]
  simp only [h2]
theorem sCall_of {n : Nat} {m : Mir} {a : SA} {ρ ρ1 : Rho} {xs : List D} {d : D} {o : List D} (h : a ρ = some (xs, ρ1)) (hn : xs.length = n) (hm : m (xs.map .val) = some (d, o)) : sCall n m a ρ = some (d, ρ1) := by
  unfold sCall
  rw [h]
  simp only [hn, if_true, hm]
theorem sB_of {s : SE} {ρ ρ1 : Rho} {b : Bool} (h : s ρ = some (.bl b, ρ1)) : sB s ρ = some (b, ρ1) := by
  unfold sB
  rw [h]
section
variable {ns : Nt} {S : List Int} {sc : Int} {P : List Nat} {m : Nat}
theorem carried_comp (A : Ask ns S sc P m) : cLoop (.nm 5) bYes (sCall 5 m_run_carried (aC (sV 0) (aC (sV 1) (aC (sV 2) (aC (sV 3) (aC (sV 5) aN)))))) ((List.range (manyR ns P m + 1)).map fun i : Nat => D.int (-1 + (i : Nat)))
    [.val (netD ns), .val (.lst (S.map .int)), .val (.int sc), .val (.lst (P.map fun i => .int (i : Nat))), .val (.int (manyR ns P m : Nat)), .no] = some ((List.range (manyR ns P m + 1)).map fun i : Nat => D.int (carry ns S sc P m (-1 + (i : Nat))),
    [.val (netD ns), .val (.lst (S.map .int)), .val (.int sc), .val (.lst (P.map fun i => .int (i : Nat))), .val (.int (manyR ns P m : Nat)), .no]) := by
  obtain ⟨n1, n2⟩ := A.many (Nat.le_refl m)
  refine cLoop_map fun i hi => ?_
  have hi' : i < manyR ns P m + 1 := List.mem_range.mp hi
  have sm : Sm 100 (-1 + (i : Int)) := by
    have q : (manyR ns P m : Nat) ≤ 100000 := n2
    have z : (100001 : Nat) < 2 ^ 100 := by decide
    unfold Sm
    omega
  obtain ⟨e, _⟩ := run_carried_eq A sm (by decide) (by decide)
  simp only [turnC, okT, Tg.ix, List.all_cons, List.all_nil, List.getElem?_cons_succ, List.getElem?_cons_zero, Bool.and_true, if_true, blkR, wipeR, toB, List.map_cons, List.map_nil, tgt, List.set_cons_succ, List.set_cons_zero, bYes, sCall, aC, aN, sV, List.length_cons, List.length_nil, Nat.zero_add, e, restore, Option.map_some]
theorem all_carried_eq (A : Ask ns S sc P m) : m_all_carried [.val (netD ns), .val (.lst (S.map .int)), .val (.int sc), .val (.lst (P.map fun i => .int (i : Nat)))] =
    some (.lst ((List.range (manyR ns P m + 1)).map fun i => .int (carry ns S sc P m (-1 + (i : Nat)))), []) := by
  obtain ⟨n1, n2⟩ := A.many (Nat.le_refl m)
  have c := carried_comp A
  have sm1 : small62 (0 - 1) := ⟨by decide, by decide⟩
  have sm2 : small62 ((manyR ns P m : Nat) : Int) := by
    have q : (manyR ns P m : Nat) ≤ 100000 := n2
    exact ⟨by omega, by omega⟩
  have l3 : (((manyR ns P m : Nat) : Int) - (0 - 1)).toNat = manyR ns P m + 1 := by omega
  have r := A.runs (Nat.le_refl m)
  rw [n1] at r
  have la := A.last
  have r' : m_runs_in_turn [.val (netD ns), .val (.int ((atP P m : Nat) : Int))] = some (.int (manyR ns P m : Nat), []) := r
  have rg : rng (0 - 1) (manyR ns P m + 1) = (List.range (manyR ns P m + 1)).map fun i : Nat => D.int (-1 + (i : Nat)) := rfl
  have fin : ((List.range (manyR ns P m + 1)).map fun i => D.int (carry ns S sc P m (-1 + (i : Nat)))).length ≤ LN := by
    rw [List.length_map, List.length_range]
    have q : (manyR ns P m : Nat) ≤ 100000 := n2
    exact Nat.le_trans (Nat.succ_le_succ q) (by decide)
  exact mir_rt (ρ0 := [_, _, _, _, _, _]) rfl (kS_nx (kSet_of (sCall_of (aC_of rfl (aC_of (s2_of rfl (s1_of rfl gNeg_int) la) rfl)) rfl r')) (kRet_of (sComp_of (by
    simp only [iR2, aC, aN, s2, sK, sV, gSub_eq, List.set_cons_zero, List.set_cons_succ, List.getElem?_cons_zero, List.getElem?_cons_succ, sm1, sm2, and_self, if_true, l3, rg]) c fin))) rfl
end
end Toy

set_option Elab.async false
set_option linter.all false
set_option maxRecDepth 100000
set_option maxHeartbeats 8000000
namespace Toy
open PySem PySem.Spec PyProof.Rows L2 VS
section
variable {ns : Nt} {S : List Int} {sc : Int} {P : List Nat} {m : Nat}
theorem Ask.begun (A : Ask ns S sc P m) {i : Nat} {run : Int} (h : i ≤ m) (b : Sm 3400 run) :
    m_time_begun [.val (netD ns), .val (.lst (S.map .int)), .val (.int sc), .val (.int ((atP P i : Nat) : Int)), .val (.int run)] = some (.int (ss S (atP P i) + run * pp ns (atP P i) * sc), []) := by
  obtain ⟨q1, q2⟩ := A.place h
  obtain ⟨s, e1, p1, l1, h1, h2, h3⟩ := A.step q2
  obtain ⟨x, e3, x1, x2⟩ := A.start q2
  rw [x1, p1]
  exact time_begun_eq e1 e3 (b.bd (by decide)) (h2.bd (by decide)) ((b.mul h2).bd (by decide)) (A.bc.bd (by decide))
theorem Ask.written (A : Ask ns S sc P m) {i : Nat} {run : Int} (h : i ≤ m) (b : Sm 3400 run) :
    m_time_written [.val (netD ns), .val (.lst (S.map .int)), .val (.int sc), .val (.int ((atP P i : Nat) : Int)), .val (.int run)] = some (.int (ss S (atP P i) + run * pp ns (atP P i) * sc + ll ns (atP P i) * sc), []) := by
  obtain ⟨q1, q2⟩ := A.place h
  obtain ⟨s, e1, p1, l1, h1, h2, h3⟩ := A.step q2
  obtain ⟨x, e3, x1, x2⟩ := A.start q2
  rw [x1, p1, l1]
  exact time_written_eq e1 e3 (b.bd (by decide)) (h2.bd (by decide)) ((b.mul h2).bd (by decide)) (A.bc.bd (by decide)) (h3.bd (by decide))
def tm (ns : Nt) (S : List Int) (sc : Int) (P : List Nat) (m : Nat) (r q : Int) : Int :=
  ss S (atP P m) + r * pp ns (atP P m) * sc + ll ns (atP P m) * sc - (ss S (atP P 0) + q * pp ns (atP P 0) * sc)
theorem Ask.age (A : Ask ns S sc P m) {r q : Int} (b : Sm 3400 r) (b2 : Sm 3400 q) :
    m_age_of [.val (netD ns), .val (.lst (S.map .int)), .val (.int sc), .val (.lst (P.map fun i => .int (i : Nat))), .val (.int r), .val (.int q)] = some (.int (tm ns S sc P m r q), []) := by
  have e1 := A.written (Nat.le_refl m) b
  have e2 := A.begun (Nat.zero_le m) b2
  exact mir_rt (ρ0 := [_, _, _, _, _, _, _]) rfl (kS_nx (kSet_of (sCall_of (aC_of rfl (aC_of rfl (aC_of rfl (aC_of (s2_of rfl (s1_of rfl gNeg_int) A.last) (aC_of rfl rfl))))) rfl e1))
    (kRet_of (s2_of rfl (sCall_of (aC_of rfl (aC_of rfl (aC_of rfl (aC_of (s2_of rfl rfl A.first) (aC_of rfl rfl))))) rfl e2) gSub_eq))) rfl
theorem cut1 (xs : List D) : VS.cutD xs (some 1) none = xs.drop 1 := by
  unfold VS.cutD HT.sIx
  cases xs with
  | nil => rfl
  | cons x r => simp <;> omega
theorem enumF_map (f : Nat → D) : ∀ (n k : Nat), enumF k ((List.range n).map fun i => f (k + i)) = (List.range n).map fun i => .tup [.int ((k + i : Nat) : Int), f (k + i)]
  | 0, _ => rfl
  | n + 1, k => by
    have e : ((fun i : Nat => f (k + i)) ∘ Nat.succ) = fun i : Nat => f (k + 1 + i) := by
      funext i
      simp only [Function.comp_apply]
      congr 1
      omega
    have e2 : ((fun i : Nat => D.tup [.int ((k + i : Nat) : Int), f (k + i)]) ∘ Nat.succ) = fun i : Nat => D.tup [.int ((k + 1 + i : Nat) : Int), f (k + 1 + i)] := by
      funext i
      simp only [Function.comp_apply]
      rw [show k + Nat.succ i = k + 1 + i by omega]
    rw [List.range_succ_eq_map, List.map_cons, List.map_map, List.map_cons, List.map_map, e, e2]
    unfold enumF
    rw [enumF_map f n (k + 1)]
    rfl
theorem enumF_range (f : Nat → D) (n : Nat) : enumF 0 ((List.range n).map f) = (List.range n).map fun i => .tup [.int (i : Nat), f i] := by
  have := enumF_map f n 0
  simpa only [Nat.zero_add] using this
theorem drop_range (f : Nat → D) (n : Nat) : ((List.range (n + 1)).map f).drop 1 = (List.range n).map fun i => f (i + 1) := by
  rw [List.range_succ_eq_map, List.map_cons, List.map_map]
  rfl
theorem Ask.srcSm (A : Ask ns S sc P m) {i : Nat} (h : i ≤ 100001) : Sm 3400 (carry ns S sc P m (-1 + (i : Nat))) ∧ Sm 100 (-1 + (i : Int)) := by
  have sm : Sm 100 (-1 + (i : Int)) := by
    have z : (100001 : Nat) < 2 ^ 100 := by decide
    unfold Sm
    omega
  exact ⟨(run_carried_eq A sm (by decide) (by decide)).2, sm⟩
theorem gSl1 {xs : List D} : gSl (.lst xs) (some 1) none = some (.lst (xs.drop 1)) := by
  show some (D.lst (VS.cutD xs (some 1) none)) = _
  rw [cut1]
theorem sSl_of {a : SE} {lo hi : SO} {ρ ρ1 ρ2 ρ3 : Rho} {x d : D} {l h : Option Int} (ha : a ρ = some (x, ρ1)) (hl : lo ρ1 = some (l, ρ2)) (hh : hi ρ2 = some (h, ρ3)) (hg : gSl x l h = some d) : sSl a lo hi ρ = some (d, ρ3) := by
  unfold sSl
  rw [ha]
  simp only [hl, hh, hg]
theorem iEn_of {a : SA} {ρ ρ1 : Rho} {xs : List D} (h : a ρ = some ([.lst xs], ρ1)) : iEn a ρ = some (enumF 0 xs, ρ1) := by
  unfold iEn
  rw [h]
theorem ag_comp (A : Ask ns S sc P m) (x y z : Sl) : cLoop (.tp [5, 6]) bYes (sCall 6 m_age_of (aC (sV 0) (aC (sV 1) (aC (sV 2) (aC (sV 3) (aC (sV 5) (aC (sV 6) aN)))))))
      ((List.range (manyR ns P m)).map fun i => .tup [.int (i : Nat), .int (carry ns S sc P m (-1 + ((i + 1 : Nat) : Int)))])
      [.val (netD ns), .val (.lst (S.map .int)), .val (.int sc), .val (.lst (P.map fun i => .int (i : Nat))), .val (.lst ((List.range (manyR ns P m)).map fun i => .int (carry ns S sc P m (-1 + ((i + 1 : Nat) : Int))))), .no, .no] =
    some ((List.range (manyR ns P m)).map fun i => .int (tm ns S sc P m (i : Nat) (carry ns S sc P m (-1 + ((i + 1 : Nat) : Int)))),
      [.val (netD ns), .val (.lst (S.map .int)), .val (.int sc), .val (.lst (P.map fun i => .int (i : Nat))), .val (.lst ((List.range (manyR ns P m)).map fun i => .int (carry ns S sc P m (-1 + ((i + 1 : Nat) : Int))))), .no, .no]) := by
  obtain ⟨n1, n2⟩ := A.many (Nat.le_refl m)
  refine cLoop_map fun i hi => ?_
  have hi' : i < manyR ns P m := List.mem_range.mp hi
  have q : (manyR ns P m : Nat) ≤ 100000 := n2
  have s1 := (A.srcSm (i := i + 1) (by omega)).1
  have s2 : Sm 3400 ((i : Nat) : Int) := by
    have := (A.srcSm (i := i + 1) (by omega)).2
    rw [show (-1 : Int) + ((i + 1 : Nat) : Int) = (i : Nat) by omega] at this
    exact this.mono (by decide)
  have e := A.age s2 s1
  simp only [turnC, okT, Tg.ix, List.all_cons, List.all_nil, List.getElem?_cons_succ, List.getElem?_cons_zero, Bool.and_true, if_true, blkR, wipeR, toB, List.map_cons, List.map_nil, tgt, sets, List.set_cons_succ, List.set_cons_zero, bYes, sCall, aC, aN, sV, List.length_cons, List.length_nil, Nat.zero_add, e, restore, Option.map_some]
def agesL (ns : Nt) (S : List Int) (sc : Int) (P : List Nat) (m : Nat) : List Int := (List.range (manyR ns P m)).map fun i : Nat => tm ns S sc P m i (carry ns S sc P m i)
theorem all_ages_eq (A : Ask ns S sc P m) : m_all_ages [.val (netD ns), .val (.lst (S.map .int)), .val (.int sc), .val (.lst (P.map fun i => .int (i : Nat)))] = some (.lst ((agesL ns S sc P m).map .int), []) := by
  have e := all_carried_eq A
  have c := ag_comp A .no .no .no
  obtain ⟨n1, n2⟩ := A.many (Nat.le_refl m)
  have q : (manyR ns P m : Nat) ≤ 100000 := n2
  have hd := drop_range (fun i => D.int (carry ns S sc P m (-1 + (i : Nat)))) (manyR ns P m)
  have hen := enumF_range (fun i => D.int (carry ns S sc P m (-1 + ((i + 1 : Nat) : Int)))) (manyR ns P m)
  have sl : gSl (.lst ((List.range (manyR ns P m + 1)).map fun i => .int (carry ns S sc P m (-1 + (i : Nat))))) (some 1) none = some (.lst ((List.range (manyR ns P m)).map fun i => .int (carry ns S sc P m (-1 + ((i + 1 : Nat) : Int))))) := by
    rw [gSl1, hd]
  have fin : ((List.range (manyR ns P m)).map fun i => D.int (tm ns S sc P m (i : Nat) (carry ns S sc P m (-1 + ((i + 1 : Nat) : Int))))).length ≤ LN := by
    rw [List.length_map, List.length_range]
    exact Nat.le_trans q (by decide)
  have ag : (agesL ns S sc P m).map D.int = (List.range (manyR ns P m)).map fun i => D.int (tm ns S sc P m (i : Nat) (carry ns S sc P m (-1 + ((i + 1 : Nat) : Int)))) := by
    unfold agesL
    rw [List.map_map]
    refine List.map_congr_left fun i _ => ?_
    simp only [Function.comp_apply]
    rw [show (-1 : Int) + ((i + 1 : Nat) : Int) = (i : Nat) by omega]
  rw [ag]
  have it := iEn_of (a := aC (sV 4) aN) (ρ := [.val (netD ns), .val (.lst (S.map .int)), .val (.int sc), .val (.lst (P.map fun i => .int (i : Nat))), .val (.lst ((List.range (manyR ns P m)).map fun i => .int (carry ns S sc P m (-1 + ((i + 1 : Nat) : Int))))), .no, .no]) (aC_of rfl rfl)
  rw [hen] at it
  exact mir_rt (ρ0 := [_, _, _, _, _, _, _]) rfl (kS_nx (kSet_of (sSl_of (sCall_of (aC_of rfl (aC_of rfl (aC_of rfl (aC_of rfl rfl)))) rfl e) rfl rfl sl)) (kRet_of (sComp_of it c fin))) rfl
end
end Toy

set_option Elab.async false
set_option linter.all false
set_option maxRecDepth 100000
set_option maxHeartbeats 8000000
namespace Toy
open PySem PySem.Spec PyProof.Rows L2 VS
theorem toIs_map : ∀ (l : List Int), toIs (l.map .int) = some l
  | [] => rfl
  | i :: r => by
    simp only [List.map_cons, toIs, toIs_map r]
theorem gSorted_eq (l : List Int) : gSorted [.lst (l.map .int)] = some (.lst ((isort l).map .int)) := by
  unfold gSorted
  simp only [toIs_map]
theorem isort_ends {l : List Int} (h : l ≠ []) : ∃ lo hi k, (isort l).length = k + 1 ∧ (isort l)[0]? = some lo ∧ (isort l)[k]? = some hi ∧ lo ∈ l ∧ hi ∈ l ∧ ∀ x ∈ l, lo ≤ x ∧ x ≤ hi := by
  have pm : (isort l).Perm l := List.mergeSort_perm l _
  have so : (isort l).Pairwise (fun a b => decide (a ≤ b) = true) := List.pairwise_mergeSort (fun a b c h1 h2 => by simp at *; omega) (fun a b => by simp; omega) l
  have ln : (isort l).length = l.length := pm.length_eq
  have pos : 0 < l.length := List.length_pos_iff.mpr h
  generalize e : isort l = s at *
  have p0 : 0 < s.length := by omega
  have pk : s.length - 1 < s.length := by omega
  refine ⟨s[0], s[s.length - 1], s.length - 1, by omega, by simp [p0], by simp [pk], pm.mem_iff.mp (List.getElem_mem p0), pm.mem_iff.mp (List.getElem_mem pk), fun x hx => ?_⟩
  obtain ⟨i, hi, rfl⟩ := List.mem_iff_getElem.mp (pm.mem_iff.mpr hx)
  have pw := List.pairwise_iff_getElem.mp so
  constructor
  · by_cases z : i = 0
    · subst z; exact Int.le_refl _
    · exact of_decide_eq_true (pw 0 i p0 hi (by omega))
  · by_cases z : i = s.length - 1
    · subst z; exact Int.le_refl _
    · exact of_decide_eq_true (pw i (s.length - 1) hi pk (by omega))
theorem iSeq_of {a : SE} {ρ ρ1 : Rho} {xs : List D} (h : a ρ = some (.lst xs, ρ1)) : iSeq a ρ = some (xs, ρ1) := by
  unfold iSeq
  rw [h]
theorem kTup_of {is : List Nat} {e : SE} {ρ ρ1 ρ2 : Rho} {ds : List D} (h : e ρ = some (.tup ds, ρ1)) (h2 : sets is ds ρ1 = some ρ2) : VS.kTup is e ρ = some (.nx, ρ2) := by
  unfold VS.kTup
  rw [h]
  simp only [h2]
theorem kPar_of {is : List Nat} {a : SA} {ρ ρ1 ρ2 : Rho} {ds : List D} (h : a ρ = some (ds, ρ1)) (h2 : sets is ds ρ1 = some ρ2) : kPar is a ρ = some (.nx, ρ2) := by
  unfold kPar
  rw [h]
  simp only [h2]
theorem kLoop_nx {t : Tg} {b : SS} {d : D} {r : List D} {ρ ρ1 ρ2 : Rho} {res : Option (Fl × Rho)} (h1 : tgt t d ρ = some ρ1) (h2 : b ρ1 = some (.nx, ρ2)) (h3 : kLoop t b r ρ2 = res) : kLoop t b (d :: r) ρ = res := by
  unfold kLoop
  rw [h1]
  simp only [h2]
  exact h3
structure Entry (ns : Nt) (S : List Int) (sc : Int) (P : List Nat) (PH PA : D) : Prop where
  c1 : m_check_net_and_phases [.val (netD ns), .val PH] = some (.non, [])
  c2 : m_check_path [.val (netD ns), .val PA] = some (.non, [])
  u : m_in_units [.val PH] = some (.tup [.lst (S.map .int), .int sc], [])
  p : m_places_of [.val (netD ns), .val PA] = some (.lst (P.map fun i => .int (i : Nat)), [])
section
variable {ns : Nt} {S : List Int} {sc : Int} {P : List Nat} {m : Nat} {PH PA : D}
theorem ages_eq (A : Ask ns S sc P m) (E : Entry ns S sc P PH PA) {lo hi : Int} (h1 : lo ∈ agesL ns S sc P m) (h2 : hi ∈ agesL ns S sc P m) (h3 : ∀ x ∈ agesL ns S sc P m, lo ≤ x ∧ x ≤ hi) :
    m_ages [.val (netD ns), .val PH, .val PA] = some (.tup [lowD lo sc, lowD hi sc], []) := by
  obtain ⟨n1, n2⟩ := A.many (Nat.le_refl m)
  have q : (manyR ns P m : Nat) ≤ 100000 := n2
  obtain ⟨lo', hi', k, e1, e2, e3, e4, e5, e6⟩ := isort_ends (List.ne_nil_of_mem h1)
  have z1 : lo' = lo := by
    have a := (h3 _ e4).1
    have b := (e6 _ h1).1
    omega
  have z2 : hi' = hi := by
    have a := (h3 _ e5).2
    have b := (e6 _ h2).2
    omega
  subst z1 z2
  have aa := all_ages_eq A
  have c := cLoop_map (t := .nm 6) (tt := bYes) (e := sL gInt (aC (sV 6) aN)) (ρ := [.val (netD ns), .val PH, .val PA, .val (.lst (S.map .int)), .val (.int sc), .no, .no]) (g := D.int) (f := D.int) (ds := agesL ns S sc P m) fun i _ => by
    simp only [turnC, okT, Tg.ix, List.all_cons, List.all_nil, List.getElem?_cons_succ, List.getElem?_cons_zero, Bool.and_true, if_true, blkR, wipeR, toB, List.map_cons, List.map_nil, tgt, List.set_cons_succ, List.set_cons_zero, bYes, sL, aC, aN, sV, gInt_int, restore, Option.map_some]
  have fin : ((agesL ns S sc P m).map D.int).length ≤ LN := by
    unfold agesL
    rw [List.length_map, List.length_map, List.length_range]
    exact Nat.le_trans q (by decide)
  have g1 : gIx (.lst ((isort (agesL ns S sc P m)).map .int)) (.int 0) = some (.int lo') := by
    show L2.atI _ ((0 : Nat) : Int) = _
    rw [atI_nat]
    exact map_get e2
  have g2 : gIx (.lst ((isort (agesL ns S sc P m)).map .int)) (.int (-1)) = some (.int hi') := by
    show L2.atI _ _ = _
    rw [atI_m1 (k := k) (by rw [List.length_map]; exact e1)]
    exact map_get e3
  have l1 := lowest_eq (a := lo') A.c0 (A.bc.mono (by decide))
  have l2 := lowest_eq (a := hi') A.c0 (A.bc.mono (by decide))
  exact mir_rt (ρ0 := [_, _, _, _, _, _, _]) rfl (kS_nx (kDrop_of (sCall_of (aC_of rfl (aC_of rfl rfl)) rfl E.c1)) (kS_nx (kDrop_of (sCall_of (aC_of rfl (aC_of rfl rfl)) rfl E.c2)) (kS_nx (kTup_of (sCall_of (aC_of rfl rfl) rfl E.u) rfl)
    (kS_nx (kSet_of (sL_of (aC_of (sComp_of (iSeq_of (sCall_of (aC_of rfl (aC_of rfl (aC_of rfl (aC_of (sCall_of (aC_of rfl (aC_of rfl rfl)) rfl E.p) rfl)))) rfl aa)) c fin) rfl) (gSorted_eq _)))
    (kRet_of (sL_of (aC_of (sCall_of (aC_of (s2_of rfl rfl g1) (aC_of rfl rfl)) rfl l1) (aC_of (sCall_of (aC_of (s2_of rfl (s1_of rfl gNeg_int) g2) (aC_of rfl rfl)) rfl l2) rfl)) gTup2)))))) rfl
def inc (ns : Nt) (S : List Int) (sc : Int) (P : List Nat) (m : Nat) (i : Nat) : Prop := carry ns S sc P m (-1 + (i : Nat)) < carry ns S sc P m (-1 + ((i + 1 : Nat) : Int))
instance : Decidable (inc ns S sc P m i) := inferInstanceAs (Decidable (_ < _))
def wt (ns : Nt) (S : List Int) (sc : Int) (P : List Nat) (m : Nat) (i : Nat) : Int := tm ns S sc P m (i : Nat) (carry ns S sc P m (-1 + (i : Nat)))
def bw (ns : Nt) (S : List Int) (sc : Int) (P : List Nat) (m : Nat) (best : Option Int) (i : Nat) : Option Int :=
  if inc ns S sc P m i then match best with
    | none => some (wt ns S sc P m i)
    | some b => if b < wt ns S sc P m i then some (wt ns S sc P m i) else some b
  else best
def opD : Option Int → D
  | none => .non
  | some b => .int b
theorem zipD_range (f g : Nat → D) (n : Nat) : zipD ((List.range (n + 1)).map f) ((List.range n).map g) = (List.range n).map fun i => .tup [f i, g i] := by
  apply List.ext_getElem
  · simp [zipD]
  · intro i h1 h2
    simp [zipD]
theorem gLt_t {a b : Int} (h : a < b) : gLt (.int a) (.int b) = some (.bl true) := by rw [gLt_int, decide_eq_true h]
theorem gLt_f {a b : Int} (h : ¬ a < b) : gLt (.int a) (.int b) = some (.bl false) := by rw [gLt_int, decide_eq_false h]
theorem gIsN_opD (b : Option Int) : gIsN (opD b) = some (.bl b.isNone) := by cases b <;> rfl
theorem gw_loop (A : Ask ns S sc P m) (XS : Sl) : ∀ (l : List Nat) (best : Option Int) (x6 x7 x8 x9 x10 : Sl), (∀ i ∈ l, i < manyR ns P m) → ∃ y6 y7 y8 y9 y10,
    kLoop (.np 6 [7, 8]) (kIf (sB (s2 gLt (sV 7) (sV 8)))
      (kS (kSet 9 (sCall 5 m_time_written (aC (sV 0) (aC (sV 1) (aC (sV 2) (aC (s2 gIx (sV 3) (s1 gNeg (sK (.int 1)))) (aC (sV 6) aN)))))))
      (kS (kSet 10 (s2 gSub (sV 9) (sCall 5 m_time_begun (aC (sV 0) (aC (sV 1) (aC (sV 2) (aC (s2 gIx (sV 3) (sK (.int 0))) (aC (sV 7) aN))))))))
      (kIf (bOr (sB (s1 gIsN (sV 5))) (sB (s2 gGt (sV 10) (sV 5)))) (kSet 5 (sV 10)) kN))) kN)
      (l.map fun i => .tup [.int (i : Nat), .tup [.int (carry ns S sc P m (-1 + (i : Nat))), .int (carry ns S sc P m (-1 + ((i + 1 : Nat) : Int)))]])
      [.val (netD ns), .val (.lst (S.map .int)), .val (.int sc), .val (.lst (P.map fun i => .int (i : Nat))), XS, .val (opD best), x6, x7, x8, x9, x10] =
    some (.nx, [.val (netD ns), .val (.lst (S.map .int)), .val (.int sc), .val (.lst (P.map fun i => .int (i : Nat))), XS, .val (opD (l.foldl (bw ns S sc P m) best)), y6, y7, y8, y9, y10])
  | [], best, x6, x7, x8, x9, x10, _ => ⟨x6, x7, x8, x9, x10, rfl⟩
  | i :: l, best, x6, x7, x8, x9, x10, h => by
    obtain ⟨n1, n2⟩ := A.many (Nat.le_refl m)
    have q : (manyR ns P m : Nat) ≤ 100000 := n2
    have hi := h i List.mem_cons_self
    have sm1 := A.srcSm (i := i) (by omega)
    have sm2 : Sm 3400 ((i : Nat) : Int) := by
      have := (A.srcSm (i := i + 1) (by omega)).2
      rw [show (-1 : Int) + ((i + 1 : Nat) : Int) = (i : Nat) by omega] at this
      exact this.mono (by decide)
    have w1 := A.written (Nat.le_refl m) sm2
    have w2 := A.begun (Nat.zero_le m) sm1.1
    have la := A.last
    have fi := A.first
    rw [List.map_cons, List.foldl_cons]
    by_cases z : inc ns S sc P m i
    · have z' : carry ns S sc P m (-1 + (i : Nat)) < carry ns S sc P m (-1 + ((i + 1 : Nat) : Int)) := z
      by_cases g : best.isNone = true ∨ ∃ b, best = some b ∧ b < wt ns S sc P m i
      · have hb : bw ns S sc P m best i = some (wt ns S sc P m i) := by
          unfold bw
          rw [if_pos z]
          rcases g with g | ⟨b, rfl, g⟩
          · cases best with
            | none => rfl
            | some b => cases g
          · simp only [if_pos g]
        obtain ⟨y6, y7, y8, y9, y10, e⟩ := gw_loop A XS l (some (wt ns S sc P m i)) (.val (.int (i : Nat))) (.val (.int (carry ns S sc P m (-1 + (i : Nat))))) (.val (.int (carry ns S sc P m (-1 + ((i + 1 : Nat) : Int)))))
          (.val (.int (ss S (atP P m) + (i : Nat) * pp ns (atP P m) * sc + ll ns (atP P m) * sc))) (.val (.int (wt ns S sc P m i))) fun j hj => h j (List.mem_cons_of_mem _ hj)
        refine ⟨y6, y7, y8, y9, y10, ?_⟩
        rw [hb]
        have t : bOr (sB (s1 gIsN (sV 5))) (sB (s2 gGt (sV 10) (sV 5))) [.val (netD ns), .val (.lst (S.map .int)), .val (.int sc), .val (.lst (P.map fun i => .int (i : Nat))), XS, .val (opD best), .val (.int (i : Nat)), .val (.int (carry ns S sc P m (-1 + (i : Nat)))), .val (.int (carry ns S sc P m (-1 + ((i + 1 : Nat) : Int)))), .val (.int (ss S (atP P m) + (i : Nat) * pp ns (atP P m) * sc + ll ns (atP P m) * sc)), .val (.int (wt ns S sc P m i))] =
            some (true, [.val (netD ns), .val (.lst (S.map .int)), .val (.int sc), .val (.lst (P.map fun i => .int (i : Nat))), XS, .val (opD best), .val (.int (i : Nat)), .val (.int (carry ns S sc P m (-1 + (i : Nat)))), .val (.int (carry ns S sc P m (-1 + ((i + 1 : Nat) : Int)))), .val (.int (ss S (atP P m) + (i : Nat) * pp ns (atP P m) * sc + ll ns (atP P m) * sc)), .val (.int (wt ns S sc P m i))]) := by
          rcases g with g | ⟨b, rfl, g⟩
          · simp only [bOr, sB, s1, sV, List.getElem?_cons_zero, List.getElem?_cons_succ, gIsN_opD, g]
          · simp only [bOr, sB, s1, s2, sV, List.getElem?_cons_zero, List.getElem?_cons_succ, opD, gIsN, isN, gGt_int, g, decide_true]
        exact kLoop_nx rfl (kIf_t (sB_of (s2_of rfl rfl (gLt_t z'))) (kS_nx (kSet_of (sCall_of (aC_of rfl (aC_of rfl (aC_of rfl (aC_of (s2_of rfl (s1_of rfl gNeg_int) la) (aC_of rfl rfl))))) rfl w1)) (kS_nx (kSet_of (s2_of rfl (sCall_of (aC_of rfl (aC_of rfl (aC_of rfl (aC_of (s2_of rfl rfl fi) (aC_of rfl rfl))))) rfl w2) gSub_eq)) (kIf_t t (kSet_of rfl))))) e
      · have hb : bw ns S sc P m best i = best := by
          unfold bw
          rw [if_pos z]
          cases best with
          | none => exact absurd (Or.inl rfl) g
          | some b =>
            have : ¬ b < wt ns S sc P m i := fun k => g (Or.inr ⟨b, rfl, k⟩)
            simp only [if_neg this]
        obtain ⟨y6, y7, y8, y9, y10, e⟩ := gw_loop A XS l best (.val (.int (i : Nat))) (.val (.int (carry ns S sc P m (-1 + (i : Nat))))) (.val (.int (carry ns S sc P m (-1 + ((i + 1 : Nat) : Int)))))
          (.val (.int (ss S (atP P m) + (i : Nat) * pp ns (atP P m) * sc + ll ns (atP P m) * sc))) (.val (.int (wt ns S sc P m i))) fun j hj => h j (List.mem_cons_of_mem _ hj)
        refine ⟨y6, y7, y8, y9, y10, ?_⟩
        rw [hb]
        have t : bOr (sB (s1 gIsN (sV 5))) (sB (s2 gGt (sV 10) (sV 5))) [.val (netD ns), .val (.lst (S.map .int)), .val (.int sc), .val (.lst (P.map fun i => .int (i : Nat))), XS, .val (opD best), .val (.int (i : Nat)), .val (.int (carry ns S sc P m (-1 + (i : Nat)))), .val (.int (carry ns S sc P m (-1 + ((i + 1 : Nat) : Int)))), .val (.int (ss S (atP P m) + (i : Nat) * pp ns (atP P m) * sc + ll ns (atP P m) * sc)), .val (.int (wt ns S sc P m i))] =
            some (false, [.val (netD ns), .val (.lst (S.map .int)), .val (.int sc), .val (.lst (P.map fun i => .int (i : Nat))), XS, .val (opD best), .val (.int (i : Nat)), .val (.int (carry ns S sc P m (-1 + (i : Nat)))), .val (.int (carry ns S sc P m (-1 + ((i + 1 : Nat) : Int)))), .val (.int (ss S (atP P m) + (i : Nat) * pp ns (atP P m) * sc + ll ns (atP P m) * sc)), .val (.int (wt ns S sc P m i))]) := by
          cases best with
          | none => exact absurd (Or.inl rfl) g
          | some b =>
            have : ¬ b < wt ns S sc P m i := fun k => g (Or.inr ⟨b, rfl, k⟩)
            simp only [bOr, sB, s1, s2, sV, List.getElem?_cons_zero, List.getElem?_cons_succ, opD, gIsN, isN, gGt_int, this, decide_false]
        exact kLoop_nx rfl (kIf_t (sB_of (s2_of rfl rfl (gLt_t z'))) (kS_nx (kSet_of (sCall_of (aC_of rfl (aC_of rfl (aC_of rfl (aC_of (s2_of rfl (s1_of rfl gNeg_int) la) (aC_of rfl rfl))))) rfl w1)) (kS_nx (kSet_of (s2_of rfl (sCall_of (aC_of rfl (aC_of rfl (aC_of rfl (aC_of (s2_of rfl rfl fi) (aC_of rfl rfl))))) rfl w2) gSub_eq)) (kIf_f t rfl)))) e
    · have z' : ¬ carry ns S sc P m (-1 + (i : Nat)) < carry ns S sc P m (-1 + ((i + 1 : Nat) : Int)) := z
      have hb : bw ns S sc P m best i = best := by
        unfold bw
        rw [if_neg z]
      obtain ⟨y6, y7, y8, y9, y10, e⟩ := gw_loop A XS l best (.val (.int (i : Nat))) (.val (.int (carry ns S sc P m (-1 + (i : Nat))))) (.val (.int (carry ns S sc P m (-1 + ((i + 1 : Nat) : Int))))) x9 x10 fun j hj => h j (List.mem_cons_of_mem _ hj)
      refine ⟨y6, y7, y8, y9, y10, ?_⟩
      rw [hb]
      exact kLoop_nx rfl (kIf_f (sB_of (s2_of rfl rfl (gLt_f z'))) rfl) e
end
end Toy

set_option Elab.async false
set_option linter.all false
set_option maxRecDepth 100000
set_option maxHeartbeats 8000000
namespace Toy
open PySem PySem.Spec PyProof.Rows L2 VS
theorem iEnZ_of {a : SA} {ρ ρ1 : Rho} {xs ys : List D} (h : a ρ = some ([.lst xs, .lst ys], ρ1)) : iEnZ a ρ = some (enumF 0 (zipD xs ys), ρ1) := by
  unfold iEnZ
  rw [h]
theorem iZi_of {a : SA} {ρ ρ1 : Rho} {xs ys : List D} (h : a ρ = some ([.lst xs, .lst ys], ρ1)) : iZi a ρ = some (zipD xs ys, ρ1) := by
  unfold iZi
  rw [h]
section
variable {ns : Nt} {S : List Int} {sc : Int} {P : List Nat} {m : Nat} {PH PA : D}
def carL (ns : Nt) (S : List Int) (sc : Int) (P : List Nat) (m : Nat) : List D := (List.range (manyR ns P m + 1)).map fun i => .int (carry ns S sc P m (-1 + (i : Nat)))
def carT (ns : Nt) (S : List Int) (sc : Int) (P : List Nat) (m : Nat) : List D := (List.range (manyR ns P m)).map fun i => .int (carry ns S sc P m (-1 + ((i + 1 : Nat) : Int)))
theorem carL_drop : gSl (.lst (carL ns S sc P m)) (some 1) none = some (.lst (carT ns S sc P m)) := by
  rw [gSl1]
  unfold carL carT
  rw [drop_range]
theorem carL_zip : zipD (carL ns S sc P m) (carT ns S sc P m) = (List.range (manyR ns P m)).map fun i => .tup [.int (carry ns S sc P m (-1 + (i : Nat))), .int (carry ns S sc P m (-1 + ((i + 1 : Nat) : Int)))] := zipD_range _ _ _
theorem greatest_wait_eq (A : Ask ns S sc P m) : m_greatest_wait [.val (netD ns), .val (.lst (S.map .int)), .val (.int sc), .val (.lst (P.map fun i => .int (i : Nat)))] =
    some (opD ((List.range (manyR ns P m)).foldl (bw ns S sc P m) none), []) := by
  have e : m_all_carried [.val (netD ns), .val (.lst (S.map .int)), .val (.int sc), .val (.lst (P.map fun i => .int (i : Nat)))] = some (.lst (carL ns S sc P m), []) := all_carried_eq A
  obtain ⟨y6, y7, y8, y9, y10, lp⟩ := gw_loop A (.val (.lst (carL ns S sc P m))) (List.range (manyR ns P m)) none .no .no .no .no .no fun i hi => List.mem_range.mp hi
  have it := iEnZ_of (a := aC (sV 4) (aC (sSl (sV 4) (oS (sK (.int 1))) oN) aN)) (ρ := [.val (netD ns), .val (.lst (S.map .int)), .val (.int sc), .val (.lst (P.map fun i => .int (i : Nat))), .val (.lst (carL ns S sc P m)), .val .non, .no, .no, .no, .no, .no]) (aC_of rfl (aC_of (sSl_of rfl rfl rfl carL_drop) rfl))
  rw [carL_zip, enumF_range] at it
  exact mir_rt (ρ0 := [_, _, _, _, _, _, _, _, _, _, _]) rfl (kS_nx (kSet_of (sCall_of (aC_of rfl (aC_of rfl (aC_of rfl (aC_of rfl rfl)))) rfl e)) (kS_nx (kSet_of rfl) (kS_nx (kFor_of it lp) (kRet_of rfl)))) rfl
theorem longest_wait_eq (A : Ask ns S sc P m) (E : Entry ns S sc P PH PA) {w : Int} (h : (List.range (manyR ns P m)).foldl (bw ns S sc P m) none = some w) :
    m_longest_wait [.val (netD ns), .val PH, .val PA] = some (lowD w sc, []) := by
  have g := greatest_wait_eq A
  rw [h] at g
  have l1 := lowest_eq (a := w) A.c0 (A.bc.mono (by decide))
  exact mir_rt (ρ0 := [_, _, _, _, _]) rfl (kS_nx (kDrop_of (sCall_of (aC_of rfl (aC_of rfl rfl)) rfl E.c1)) (kS_nx (kDrop_of (sCall_of (aC_of rfl (aC_of rfl rfl)) rfl E.c2)) (kS_nx (kTup_of (sCall_of (aC_of rfl rfl) rfl E.u) rfl)
    (kRet_of (sCall_of (aC_of (sCall_of (aC_of rfl (aC_of rfl (aC_of rfl (aC_of (sCall_of (aC_of rfl (aC_of rfl rfl)) rfl E.p) rfl)))) rfl g) (aC_of rfl rfl)) rfl l1))))) rfl
def usedN (ns : Nt) (S : List Int) (sc : Int) (P : List Nat) (m : Nat) : Nat := ((List.range (manyR ns P m)).filter fun i => decide (inc ns S sc P m i)).length
theorem cLoop_flt {α : Type} {t : Tg} {tt : SB} {e : SE} {ρ : Rho} {g : α → D} {f : α → Option D} : ∀ {ds : List α}, (∀ d ∈ ds, turnC t tt e (g d) ρ = some (f d, ρ)) → cLoop t tt e (ds.map g) ρ = some (ds.filterMap f, ρ)
  | [], _ => rfl
  | d :: r, h => by
    have ih := cLoop_flt (g := g) (f := f) (ds := r) fun m hm => h m (List.mem_cons_of_mem _ hm)
    rw [List.map_cons, List.filterMap_cons]
    unfold cLoop
    rw [h d List.mem_cons_self]
    cases e : f d with
    | none => simp only [ih]
    | some x => simp only [ih]
theorem flt_len {α : Type} (p : α → Prop) [DecidablePred p] (x : α → D) : ∀ (l : List α), (l.filterMap fun i => if p i then some (x i) else none).length = (l.filter fun i => decide (p i)).length
  | [] => rfl
  | a :: r => by
    rw [List.filterMap_cons, List.filter_cons]
    by_cases h : p a
    · simp only [h, if_true, decide_true, List.length_cons, flt_len p x r]
    · simp only [h, if_false, decide_false, flt_len p x r, Bool.false_eq_true]
theorem many_used_eq (A : Ask ns S sc P m) : m_many_used [.val (netD ns), .val (.lst (S.map .int)), .val (.int sc), .val (.lst (P.map fun i => .int (i : Nat)))] =
    some (.int (usedN ns S sc P m : Nat), []) := by
  have e : m_all_carried [.val (netD ns), .val (.lst (S.map .int)), .val (.int sc), .val (.lst (P.map fun i => .int (i : Nat)))] = some (.lst (carL ns S sc P m), []) := all_carried_eq A
  have it := iZi_of (a := aC (sV 4) (aC (sSl (sV 4) (oS (sK (.int 1))) oN) aN)) (ρ := [.val (netD ns), .val (.lst (S.map .int)), .val (.int sc), .val (.lst (P.map fun i => .int (i : Nat))), .val (.lst (carL ns S sc P m)), .no, .no]) (aC_of rfl (aC_of (sSl_of rfl rfl rfl carL_drop) rfl))
  rw [carL_zip] at it
  have c := cLoop_flt (t := .tp [5, 6]) (tt := sB (s2 gLt (sV 5) (sV 6))) (e := sV 5) (ρ := [.val (netD ns), .val (.lst (S.map .int)), .val (.int sc), .val (.lst (P.map fun i => .int (i : Nat))), .val (.lst (carL ns S sc P m)), .no, .no])
    (g := fun i : Nat => D.tup [.int (carry ns S sc P m (-1 + (i : Nat))), .int (carry ns S sc P m (-1 + ((i + 1 : Nat) : Int)))]) (f := fun i => if inc ns S sc P m i then some (.int (carry ns S sc P m (-1 + (i : Nat)))) else none) (ds := List.range (manyR ns P m)) fun i _ => by
      by_cases z : inc ns S sc P m i
      · have z' : carry ns S sc P m (-1 + (i : Nat)) < carry ns S sc P m (-1 + ((i + 1 : Nat) : Int)) := z
        rw [if_pos z]
        simp only [turnC, okT, Tg.ix, List.all_cons, List.all_nil, List.getElem?_cons_succ, List.getElem?_cons_zero, Bool.and_true, if_true, blkR, wipeR, toB, List.map_cons, List.map_nil, tgt, sets, List.set_cons_succ, List.set_cons_zero, sB, s2, sV, gLt_t z', restore, Option.map_some]
      · have z' : ¬ carry ns S sc P m (-1 + (i : Nat)) < carry ns S sc P m (-1 + ((i + 1 : Nat) : Int)) := z
        rw [if_neg z]
        simp only [turnC, okT, Tg.ix, List.all_cons, List.all_nil, List.getElem?_cons_succ, List.getElem?_cons_zero, Bool.and_true, if_true, blkR, wipeR, toB, List.map_cons, List.map_nil, tgt, sets, List.set_cons_succ, List.set_cons_zero, sB, s2, sV, gLt_f z', restore, Option.map_some]
  have fl := flt_len (inc ns S sc P m) (fun i => D.int (carry ns S sc P m (-1 + (i : Nat)))) (List.range (manyR ns P m))
  obtain ⟨n1, n2⟩ := A.many (Nat.le_refl m)
  have q : (manyR ns P m : Nat) ≤ 100000 := n2
  have fin : ((List.range (manyR ns P m)).filterMap fun i => if inc ns S sc P m i then some (D.int (carry ns S sc P m (-1 + (i : Nat)))) else none).length ≤ LN := by
    rw [fl]
    have := List.length_filter_le (fun i => decide (inc ns S sc P m i)) (List.range (manyR ns P m))
    rw [List.length_range] at this
    exact Nat.le_trans this (Nat.le_trans q (by decide))
  have gl : gLen [.lst ((List.range (manyR ns P m)).filterMap fun i => if inc ns S sc P m i then some (D.int (carry ns S sc P m (-1 + (i : Nat)))) else none)] = some (.int (usedN ns S sc P m : Nat)) := by
    rw [gLen_lst, fl]
    rfl
  exact mir_rt (ρ0 := [_, _, _, _, _, _, _]) rfl (kS_nx (kSet_of (sCall_of (aC_of rfl (aC_of rfl (aC_of rfl (aC_of rfl rfl)))) rfl e)) (kRet_of (sL_of (aC_of (sComp_of it c fin) rfl) gl))) rfl
theorem gTup4 {a b c d : D} : VS.gTup [a, b, c, d] = some (.tup [a, b, c, d]) := by
  unfold VS.gTup
  rw [if_pos (by show 4 ≤ 1000000; decide)]
theorem uses_eq (A : Ask ns S sc P m) (E : Entry ns S sc P PH PA) : m_uses [.val (netD ns), .val PH, .val PA] =
    some (.tup [.int (usedN ns S sc P m : Nat), .int (lcmL (turns ns) / pp ns (atP P 0) - (usedN ns S sc P m : Nat)), .int (lcmL (turns ns) / pp ns (atP P m) - (usedN ns S sc P m : Nat)), .int (lcmL (turns ns) / pp ns (atP P m))], []) := by
  have r0 := A.runs (Nat.zero_le m)
  have rm := A.runs (Nat.le_refl m)
  have mu := many_used_eq A
  exact mir_rt (ρ0 := [_, _, _, _, _, _, _, _]) rfl (kS_nx (kDrop_of (sCall_of (aC_of rfl (aC_of rfl rfl)) rfl E.c1)) (kS_nx (kDrop_of (sCall_of (aC_of rfl (aC_of rfl rfl)) rfl E.c2)) (kS_nx (kTup_of (sCall_of (aC_of rfl rfl) rfl E.u) rfl)
    (kS_nx (kSet_of (sCall_of (aC_of rfl (aC_of rfl rfl)) rfl E.p)) (kS_nx (kPar_of (aC_of (sCall_of (aC_of rfl (aC_of rfl (aC_of rfl (aC_of rfl rfl)))) rfl mu) (aC_of (sCall_of (aC_of rfl (aC_of (s2_of rfl (s1_of rfl gNeg_int) A.last) rfl)) rfl rm) rfl)) rfl)
      (kRet_of (sL_of (aC_of rfl (aC_of (s2_of (sCall_of (aC_of rfl (aC_of (s2_of rfl rfl A.first) rfl)) rfl r0) rfl gSub_eq) (aC_of (s2_of rfl rfl gSub_eq) (aC_of rfl rfl)))) gTup4))))))) rfl
end
end Toy

set_option Elab.async false
set_option linter.all false
set_option maxRecDepth 100000
set_option maxHeartbeats 8000000
namespace Toy
open PySem PySem.Spec PyProof.Rows L2 VS
def frD (p : Int × Int) : D := .tup [.int p.1, .int p.2]
def unitS (ph : List (Int × Int)) : Int := lcmL (ph.map (·.2))
def unitL (ph : List (Int × Int)) : List Int := ph.map fun p => p.1 * (unitS ph / p.2)
def Phs (ph : List (Int × Int)) : Prop := (∀ p ∈ ph, 0 < p.2 ∧ Sm 60 p.2 ∧ Sm 60 p.1) ∧ ph.length ≤ 6
theorem Phs.pos {ph : List (Int × Int)} (h : Phs ph) : 0 < unitS ph := lcmF_pos (by decide) fun n hn => by
  obtain ⟨p, hp, rfl⟩ := List.mem_map.mp hn
  exact (h.1 p hp).1
theorem Phs.sm {ph : List (Int × Int)} (h : Phs ph) : Sm 400 (unitS ph) := by
  have := lcmF_sm (ns := ph.map (·.2)) (k := 1) (f := 1) (by decide) (sm_of (by decide) (by decide)) fun n hn => by
    obtain ⟨p, hp, rfl⟩ := List.mem_map.mp hn
    exact ⟨(h.1 p hp).1, (h.1 p hp).2.1⟩
  exact this.mono (by rw [List.length_map]; have := h.2; omega)
theorem Phs.q {ph : List (Int × Int)} (h : Phs ph) {p : Int × Int} (hp : p ∈ ph) : Sm 400 (unitS ph / p.2) := by
  have h1 := Int.ediv_le_self p.2 (Int.le_of_lt h.pos)
  have h2 : 0 ≤ unitS ph / p.2 := Int.ediv_nonneg (Int.le_of_lt h.pos) (Int.le_of_lt (h.1 p hp).1)
  have h3 := h.sm
  have h4 := h.pos
  unfold Sm at *
  omega
theorem in_units_eq {ph : List (Int × Int)} (h : Phs ph) : m_in_units [.val (.tup (ph.map frD))] = some (.tup [.lst ((unitL ph).map .int), .int (unitS ph)], []) := by
  have e := common_multiple_eq (ns := ph.map (·.2)) (fun n hn => by
    obtain ⟨p, hp, rfl⟩ := List.mem_map.mp hn
    exact ⟨(h.1 p hp).1, (h.1 p hp).2.1⟩) (by rw [List.length_map]; have := h.2; omega)
  have c1 := cLoop_map (t := .tp [2, 3]) (tt := bYes) (e := sV 3) (ρ := [.val (.tup (ph.map frD)), .no, .no, .no]) (g := frD) (f := fun p => D.int p.2) (ds := ph) fun p _ => by
    simp only [turnC, okT, Tg.ix, List.all_cons, List.all_nil, List.getElem?_cons_succ, List.getElem?_cons_zero, Bool.and_true, if_true, blkR, wipeR, toB, List.map_cons, List.map_nil, frD, tgt, sets, List.set_cons_succ, List.set_cons_zero, bYes, sV, restore, Option.map_some]
  have c2 := cLoop_map (t := .tp [2, 3]) (tt := bYes) (e := s2 gMul (sV 2) (s2 gFdiv (sV 1) (sV 3))) (ρ := [.val (.tup (ph.map frD)), .val (.int (unitS ph)), .no, .no]) (g := frD) (f := fun p => D.int (p.1 * (unitS ph / p.2))) (ds := ph) fun p hp => by
    have q := h.1 p hp
    simp only [turnC, okT, Tg.ix, List.all_cons, List.all_nil, List.getElem?_cons_succ, List.getElem?_cons_zero, Bool.and_true, if_true, blkR, wipeR, toB, List.map_cons, List.map_nil, frD, tgt, sets, List.set_cons_succ, List.set_cons_zero, bYes, sV, s2, gFdiv_eq q.1 (q.2.1.bd (by decide)), gMul_eq (q.2.2.bd (by decide)) ((h.q hp).bd (by decide)), restore, Option.map_some]
  have len : ∀ (f : Int × Int → D), (ph.map f).length ≤ LN := fun f => by
    rw [List.length_map]
    exact Nat.le_trans h.2 (by decide)
  have w1 : ph.map (fun p => D.int p.2) = (ph.map (·.2)).map D.int := by rw [List.map_map]; rfl
  have w2 : (unitL ph).map D.int = ph.map (fun p => D.int (p.1 * (unitS ph / p.2))) := by unfold unitL; rw [List.map_map]; rfl
  have l1 := len (fun p => D.int p.2)
  rw [w1] at c1 l1
  rw [w2]
  have i1 : ∀ (y : Sl), iTupl (sV 0) [.val (.tup (ph.map frD)), y, .no, .no] = some (ph.map frD, [.val (.tup (ph.map frD)), y, .no, .no]) := fun y => rfl
  exact mir_rt (ρ0 := [_, _, _, _]) rfl (kS_nx (kSet_of (sCall_of (aC_of (sComp_of (i1 .no) c1 l1) rfl) rfl e)) (kRet_of (sL_of (aC_of (sComp_of (i1 (.val (.int (unitS ph)))) c2 (len _)) (aC_of rfl rfl)) gTup2))) rfl
theorem is_fraction_eq {p : Int × Int} (h : 0 < p.2) : m_is_fraction [.val (frD p)] = some (.bl true, []) := by
  have g : gGe (.int p.2) (.int 1) = some (.bl true) := by rw [gGe_int, decide_eq_true (by omega)]
  have c : cLoop (.nm 1) (bNot (sB (sCall 1 m_is_whole (aC (sV 1) aN)))) (sV 1) [.int p.1, .int p.2] [.val (frD p), .no] = some ([], [.val (frD p), .no]) := rfl
  exact mir_rt (ρ0 := [_, _]) rfl (kS_nx (kIf_f (ρ1 := [.val (frD p), .no]) rfl rfl) (kRet_of (s2_of (s2_of rfl rfl rfl) rfl g))) rfl
theorem check_net_eq (ns : Nt) : m_check_net [.val (netD ns)] = some (.non, []) := rfl
theorem check_phases_eq {ns : Nt} {ph : List (Int × Int)} (h : Phs ph) (hl : ph.length = ns.length) : m_check_phases [.val (netD ns), .val (.tup (ph.map frD))] = some (.non, []) := by
  have c := cLoop_flt (t := .nm 2) (tt := bNot (sB (sCall 1 m_is_fraction (aC (sV 2) aN)))) (e := sV 2) (ρ := [.val (netD ns), .val (.tup (ph.map frD)), .no]) (g := frD) (f := fun _ => none) (ds := ph) fun p hp => by
    have q := is_fraction_eq (h.1 p hp).1
    simp only [turnC, okT, Tg.ix, List.all_cons, List.all_nil, List.getElem?_cons_succ, List.getElem?_cons_zero, Bool.and_true, if_true, blkR, wipeR, toB, List.map_cons, List.map_nil, tgt, List.set_cons_succ, List.set_cons_zero, bNot, sB, sCall, aC, aN, sV, List.length_cons, List.length_nil, Nat.zero_add, q, Bool.not_true, restore, Option.map_some]
  have fm : ph.filterMap (fun _ => (none : Option D)) = [] := by
    induction ph with
    | nil => rfl
    | cons p r ih => simp
  rw [fm] at c
  have l1 : gNe (.int ((ph.map frD).length : Nat)) (.int ((ns.map stpD).length : Nat)) = some (.bl false) := by
    rw [gNe_int, List.length_map, List.length_map, hl]
    simp
  have t1 : bOr (bNot (sB (s1 (gIsTy2 4) (sV 1)))) (sB (s2 gNe (sL gLen (aC (sV 1) aN)) (sL gLen (aC (s1 (gFld 1 0) (sV 0)) aN)))) [.val (netD ns), .val (.tup (ph.map frD)), .no] = some (false, [.val (netD ns), .val (.tup (ph.map frD)), .no]) := by
    have b : sB (s2 gNe (sL gLen (aC (sV 1) aN)) (sL gLen (aC (s1 (gFld 1 0) (sV 0)) aN))) [.val (netD ns), .val (.tup (ph.map frD)), .no] = some (false, [.val (netD ns), .val (.tup (ph.map frD)), .no]) :=
      sB_of (s2_of (sL_of (aC_of rfl rfl) rfl) (sL_of (aC_of rfl rfl) rfl) l1)
    have a : bNot (sB (s1 (gIsTy2 4) (sV 1))) [.val (netD ns), .val (.tup (ph.map frD)), .no] = some (false, [.val (netD ns), .val (.tup (ph.map frD)), .no]) := rfl
    unfold bOr
    rw [a]
    exact b
  exact mir_nx (ρ0 := [_, _, _]) rfl (kS_nx (kIf_f t1 rfl) (kIf_f (sB_of (s2_of (sComp_of rfl c (by decide)) rfl rfl)) rfl)) rfl
theorem check_both_eq {ns : Nt} {ph : List (Int × Int)} (h : Phs ph) (hl : ph.length = ns.length) : m_check_net_and_phases [.val (netD ns), .val (.tup (ph.map frD))] = some (.non, []) :=
  mir_nx (ρ0 := [_, _]) rfl (kS_nx (kDrop_of (sCall_of (aC_of rfl rfl) rfl (check_net_eq ns))) (kDrop_of (sCall_of (aC_of rfl (aC_of rfl rfl)) rfl (check_phases_eq h hl)))) rfl
def two (a l b k : Int) : Nt := [⟨"one", a, l, []⟩, ⟨"two", b, k, ["one"]⟩]
end Toy

set_option Elab.async false
set_option linter.all false
set_option maxRecDepth 100000
set_option maxHeartbeats 8000000
namespace Toy
open PySem PySem.Spec PyProof.Rows L2 VS
def NmOk (x : Str) : Prop := m_is_name [.val (.str x)] = some (.bl true, [])
theorem fm_none {α : Type} : ∀ (l : List α), l.filterMap (fun _ => (none : Option D)) = []
  | [] => rfl
  | a :: r => by simp
structure StOk (s : Stp) : Prop where
  nm : NmOk s.nm
  p : 0 < s.p
  l : 0 ≤ s.l
  rn : ∀ x ∈ s.rd, NmOk x
  nd : s.rd.Nodup
  rl : s.rd.length ≤ 4000
theorem any_str {x : Str} : ∀ {L : List Str}, ((L.map D.str).any fun y => eqF y (.str x)) = decide (x ∈ L)
  | [] => rfl
  | a :: r => by
    rw [List.map_cons, List.any_cons, any_str (L := r)]
    show ((a == x) || decide (x ∈ r)) = decide (x ∈ a :: r)
    by_cases h : a = x
    · subst h; simp
    · have : x ≠ a := fun e => h e.symm
      simp [h, this]
theorem all_str : ∀ (L : List Str), (L.map D.str).all flatD = true
  | [] => rfl
  | a :: r => by simp [flatD, all_str r]
theorem inD_str (x : Str) (L : List Str) : inD (.str x) (L.map .str) = some (decide (x ∈ L)) := by
  unfold inD
  rw [if_pos ⟨rfl, all_str L⟩, any_str]
theorem gNotIn_tup (x : Str) (L : List Str) : gNotIn (.str x) (.tup (L.map .str)) = some (.bl (!decide (x ∈ L))) := by
  show (inD (.str x) (L.map .str)).map _ = _
  rw [inD_str]
  rfl
structure NtOk (ns : Nt) : Prop where
  ne : ns ≠ []
  st : ∀ s ∈ ns, StOk s
  nd : (ns.map (·.nm)).Nodup
  rd : ∀ s ∈ ns, ∀ x ∈ s.rd, x ∈ ns.map (·.nm)
  ln : ns.length ≤ 4000
end Toy

set_option Elab.async false
set_option linter.all false
set_option maxRecDepth 100000
set_option maxHeartbeats 8000000
namespace Toy
open PySem PySem.Spec PyProof.Rows L2 VS
theorem kLoop_rt {t : Tg} {b : SS} {d : D} {r : List D} {ρ ρ1 ρ2 : Rho} {x : D} (h1 : tgt t d ρ = some ρ1) (h2 : b ρ1 = some (.rt x, ρ2)) : kLoop t b (d :: r) ρ = some (.rt x, ρ2) := by
  unfold kLoop
  rw [h1]
  simp only [h2]
theorem kS_rt {a b : SS} {ρ ρ1 : Rho} {x : D} (h : a ρ = some (.rt x, ρ1)) : kS a b ρ = some (.rt x, ρ1) := by
  unfold kS
  rw [h]
theorem gEq_str {x y : Str} : gEq (.str x) (.str y) = some (.bl (decide (x = y))) := rfl
theorem po_loop (nt : D) (x : Str) : ∀ (l : List Stp) (k : Nat) (a b : Sl) (j : Nat) (s : Stp), l[j]? = some s → s.nm = x → (l.map (·.nm)).Nodup →
    ∃ ρ, kLoop (.tp [2, 3]) (kIf (sB (s2 gEq (s1 (gFld 0 0) (sV 3)) (sV 1))) (kRet (sV 2)) kN) (enumF k (l.map stpD)) [.val nt, .val (.str x), a, b] = some (.rt (.int ((k + j : Nat) : Int)), .val nt :: ρ)
  | [], k, a, b, j, s, h, _, _ => by simp at h
  | t :: l, k, a, b, 0, s, h, e, nd => by
    have ht : t = s := by simpa using h
    subst ht
    have q : gEq (.str t.nm) (.str x) = some (.bl true) := by rw [gEq_str, decide_eq_true e]
    refine ⟨_, kLoop_rt (ρ1 := [.val nt, .val (.str x), .val (.int (k : Nat)), .val (stpD t)]) rfl (kIf_t (sB_of (s2_of (s1_of rfl name_eq) rfl q)) (kRet_of rfl))⟩
  | t :: l, k, a, b, j + 1, s, h, e, nd => by
    have h' : l[j]? = some s := by simpa using h
    rw [List.map_cons, List.nodup_cons] at nd
    have ne : t.nm ≠ x := fun z => nd.1 (by rw [z, ← e]; exact List.mem_map.mpr ⟨s, List.mem_of_getElem? h', rfl⟩)
    have q : gEq (.str t.nm) (.str x) = some (.bl false) := by rw [gEq_str, decide_eq_false ne]
    obtain ⟨ρ, r⟩ := po_loop nt x l (k + 1) (.val (.int (k : Nat))) (.val (stpD t)) j s h' e nd.2
    rw [show k + (j + 1) = k + 1 + j by omega]
    refine ⟨ρ, kLoop_nx (ρ1 := [.val nt, .val (.str x), .val (.int (k : Nat)), .val (stpD t)]) rfl (kIf_f (sB_of (s2_of (s1_of rfl name_eq) rfl q)) rfl) r⟩
theorem iEnT_of {a : SA} {ρ ρ1 : Rho} {xs : List D} (h : a ρ = some ([.tup xs], ρ1)) : iEnT a ρ = some (enumF 0 xs, ρ1) := by
  unfold iEnT
  rw [h]
theorem place_of_eq {ns : Nt} (h : NtOk ns) {j : Nat} {s : Stp} (e : ns[j]? = some s) : m_place_of [.val (netD ns), .val (.str s.nm)] = some (.int (j : Nat), []) := by
  obtain ⟨ρ, r⟩ := po_loop (netD ns) s.nm ns 0 .no .no j s e rfl h.nd
  rw [Nat.zero_add] at r
  have it := iEnT_of (a := aC (s1 (gFld 1 0) (sV 0)) aN) (ρ := [.val (netD ns), .val (.str s.nm), .no, .no]) (aC_of (s1_of rfl nodes_eq) rfl)
  have t1 : bNot (sB (s1 (gIsTy2 2) (sV 1))) [.val (netD ns), .val (.str s.nm), .no, .no] = some (false, [.val (netD ns), .val (.str s.nm), .no, .no]) := rfl
  exact mir_rt (ρ0 := [_, _, _, _]) rfl (kS_nx (kIf_f t1 rfl) (kS_rt (kFor_of it r))) rfl
structure PaOk (ns : Nt) (P : List Nat) : Prop where
  nt : NtOk ns
  pi : ∀ i ∈ P, i < ns.length
  ne : P ≠ []
  st : ∀ j, j + 1 < P.length → ∃ s t : Stp, ns[atP P j]? = some s ∧ ns[atP P (j + 1)]? = some t ∧ s.nm ∈ t.rd
  ln : P.length ≤ 4000
def nmA (ns : Nt) (i : Nat) : Str := ((ns[i]?).map (·.nm)).getD Str.empty
def pathD (ns : Nt) (P : List Nat) : List D := P.map fun i => .str (nmA ns i)
theorem PaOk.at (h : PaOk ns P) {i : Nat} (hi : i ∈ P) : ∃ s, ns[i]? = some s ∧ nmA ns i = s.nm := by
  have q := h.pi i hi
  have e : ns[i]? = some ns[i] := by simp [q]
  exact ⟨ns[i], e, by simp [nmA, e]⟩
theorem PaOk.place (h : PaOk ns P) {i : Nat} (hi : i ∈ P) : m_place_of [.val (netD ns), .val (.str (nmA ns i))] = some (.int (i : Nat), []) := by
  obtain ⟨s, e1, e2⟩ := h.at hi
  rw [e2]
  exact place_of_eq h.nt e1
theorem places_of_eq {ns : Nt} {P : List Nat} (h : PaOk ns P) : m_places_of [.val (netD ns), .val (.lst (pathD ns P))] = some (.lst (P.map fun i => .int (i : Nat)), []) := by
  have c := cLoop_map (t := .nm 2) (tt := bYes) (e := sCall 2 m_place_of (aC (sV 0) (aC (sV 2) aN))) (ρ := [.val (netD ns), .val (.lst (pathD ns P)), .no]) (g := fun i : Nat => D.str (nmA ns i)) (f := fun i : Nat => D.int (i : Nat)) (ds := P) fun i hi => by
    have q := h.place hi
    simp only [turnC, okT, Tg.ix, List.all_cons, List.all_nil, List.getElem?_cons_succ, List.getElem?_cons_zero, Bool.and_true, if_true, blkR, wipeR, toB, List.map_cons, List.map_nil, tgt, List.set_cons_succ, List.set_cons_zero, bYes, sCall, aC, aN, sV, List.length_cons, List.length_nil, Nat.zero_add, q, restore, Option.map_some]
  have l : (P.map fun i => D.int (i : Nat)).length ≤ LN := by
    rw [List.length_map]
    exact Nat.le_trans h.ln (by decide)
  exact mir_rt (ρ0 := [_, _, _]) rfl (kRet_of (sComp_of rfl c l)) rfl
theorem zipP : ∀ (xs : List D), zipD xs (xs.drop 1) = (List.range (xs.length - 1)).map fun j => .tup [(xs[j]?).getD .non, (xs[j + 1]?).getD .non] := by
  intro xs
  apply List.ext_getElem
  · simp [zipD]
  · intro i h1 h2
    simp [zipD] at h1 h2 ⊢
    rw [List.getElem?_eq_getElem (by omega), List.getElem?_eq_getElem (by omega)]
    simp
theorem check_path_eq {ns : Nt} {P : List Nat} (h : PaOk ns P) : m_check_path [.val (netD ns), .val (.lst (pathD ns P))] = some (.non, []) := by
  have c := cLoop_flt (t := .nm 2) (tt := sB (s1 gIsN (sCall 2 m_place_of (aC (sV 0) (aC (sV 2) aN))))) (e := sV 2) (ρ := [.val (netD ns), .val (.lst (pathD ns P)), .no, .no]) (g := fun i : Nat => D.str (nmA ns i)) (f := fun _ => none) (ds := P) fun i hi => by
    have q := h.place hi
    have q2 : gIsN (.int (i : Nat)) = some (.bl false) := rfl
    simp only [turnC, okT, Tg.ix, List.all_cons, List.all_nil, List.getElem?_cons_succ, List.getElem?_cons_zero, Bool.and_true, if_true, blkR, wipeR, toB, List.map_cons, List.map_nil, tgt, List.set_cons_succ, List.set_cons_zero, sB, s1, sCall, aC, aN, sV, List.length_cons, List.length_nil, Nat.zero_add, q, q2, restore, Option.map_some]
  rw [fm_none] at c
  have ev : gEqL (.lst (pathD ns P)) (.lst []) = some (.bl false) := by
    have := h.ne
    cases P with
    | nil => exact absurd rfl this
    | cons a r => rfl
  have t1 : bOr (bNot (sB (s1 (gIsTy2 3) (sV 1)))) (bOr (sB (s2 gEqL (sV 1) (sL VS.gLst aN))) (sB (s2 gNe (sComp (iSeq (sV 1)) (.nm 2) (sB (s1 gIsN (sCall 2 m_place_of (aC (sV 0) (aC (sV 2) aN))))) (sV 2)) (sL VS.gLst aN)))) [.val (netD ns), .val (.lst (pathD ns P)), .no, .no] = some (false, [.val (netD ns), .val (.lst (pathD ns P)), .no, .no]) := by
    have a : bNot (sB (s1 (gIsTy2 3) (sV 1))) [.val (netD ns), .val (.lst (pathD ns P)), .no, .no] = some (false, [.val (netD ns), .val (.lst (pathD ns P)), .no, .no]) := rfl
    have b : sB (s2 gEqL (sV 1) (sL VS.gLst aN)) [.val (netD ns), .val (.lst (pathD ns P)), .no, .no] = some (false, [.val (netD ns), .val (.lst (pathD ns P)), .no, .no]) := sB_of (s2_of rfl rfl ev)
    unfold bOr
    rw [a]
    simp only [b]
    exact sB_of (s2_of (sComp_of rfl c (by decide)) rfl rfl)
  have lp : ∀ (l : List Nat) (x2 x3 : Sl), (∀ j ∈ l, j + 1 < P.length) → ∃ y2 y3, kLoop (.tp [2, 3]) (kIf (sB (s2 gNotIn (sV 2) (s1 (gFld 0 3) (s2 gIx (s1 (gFld 1 0) (sV 0)) (sCall 2 m_place_of (aC (sV 0) (aC (sV 3) aN))))))) kNever kN)
      (l.map fun j => .tup [((pathD ns P)[j]?).getD .non, ((pathD ns P)[j + 1]?).getD .non]) [.val (netD ns), .val (.lst (pathD ns P)), x2, x3] = some (.nx, [.val (netD ns), .val (.lst (pathD ns P)), y2, y3]) := by
    intro l
    induction l with
    | nil => exact fun x2 x3 _ => ⟨x2, x3, rfl⟩
    | cons j r ih =>
      intro x2 x3 hj
      have lt := hj j List.mem_cons_self
      obtain ⟨s, t, e1, e2, e3⟩ := h.st j lt
      have p1 : P[j]? = some (atP P j) := by
        have : P[j]? = some P[j] := by simp [show j < P.length by omega]
        simp [atP, this]
      have p2 : P[j + 1]? = some (atP P (j + 1)) := by
        have : P[j + 1]? = some P[j + 1] := by simp [lt]
        simp [atP, this]
      have d1 : ((pathD ns P)[j]?).getD .non = .str s.nm := by
        unfold pathD
        rw [map_get p1]
        simp [nmA, e1]
      have d2 : ((pathD ns P)[j + 1]?).getD .non = .str t.nm := by
        unfold pathD
        rw [map_get p2]
        simp [nmA, e2]
      have pl := place_of_eq h.nt e2
      have g1 : gIx (.tup (ns.map stpD)) (.int (atP P (j + 1) : Nat)) = some (stpD t) := by
        rw [gIx_tup, atI_nat]
        exact map_get e2
      have g2 : gNotIn (.str s.nm) (.tup (t.rd.map .str)) = some (.bl false) := by
        rw [gNotIn_tup, decide_eq_true e3]
        rfl
      obtain ⟨y2, y3, e⟩ := ih (.val (.str s.nm)) (.val (.str t.nm)) fun k hk => hj k (List.mem_cons_of_mem _ hk)
      rw [List.map_cons, d1, d2]
      exact ⟨y2, y3, kLoop_nx rfl (kIf_f (sB_of (s2_of rfl (s1_of (s2_of (s1_of rfl nodes_eq) (sCall_of (aC_of rfl (aC_of rfl rfl)) rfl pl) g1) srcs_eq) g2)) rfl) e⟩
  obtain ⟨y2, y3, e⟩ := lp (List.range ((pathD ns P).length - 1)) .no .no fun j hj => by
    have := List.mem_range.mp hj
    unfold pathD at this
    rw [List.length_map] at this
    omega
  rw [← zipP] at e
  have it := iZi_of (a := aC (sV 1) (aC (sSl (sV 1) (oS (sK (.int 1))) oN) aN)) (ρ := [.val (netD ns), .val (.lst (pathD ns P)), .no, .no]) (aC_of rfl (aC_of (sSl_of rfl rfl rfl gSl1) rfl))
  exact mir_nx (ρ0 := [_, _, _, _]) rfl (kS_nx (kIf_f t1 rfl) (kFor_of it e)) rfl
end Toy

set_option Elab.async false
set_option linter.all false
set_option maxRecDepth 100000
set_option maxHeartbeats 8000000
namespace Toy
open PySem PySem.Spec PyProof.Rows L2 VS
theorem kSet_to' {i : Nat} {e : SE} {ρ ρ1 ρ2 : Rho} {d : D} (h : e ρ = some (d, ρ1)) (h2 : ρ1.set i (.val d) = ρ2) : kSet i e ρ = some (.nx, ρ2) := by
  rw [kSet_of h, h2]
theorem callM {n : Nat} {m : Mir} {i : Nat} {a : SA} {ρ ρ1 ρ2 : Rho} {xs ys0 ys out : List D} {d : D} (h0 : conM ρ i = some ys0) (h : a ρ = some (xs, ρ1)) (hn : xs.length + 1 = n) (h1 : conM ρ1 i = some ys) (hm : m (.bor ys :: xs.map .val) = some (d, out)) (h2 : setM ρ1 i out = ρ2) :
    sCallM n m i a ρ = some (d, ρ2) := by
  unfold sCallM
  rw [h0, h]
  simp only [hn, if_true, h1, hm, h2]
def prodL : List Int → Int
  | [] => 1
  | q :: qs => q * prodL qs
end Toy

set_option Elab.async false
set_option linter.all false
set_option maxRecDepth 100000
set_option maxHeartbeats 8000000
namespace Toy
open PySem PySem.Spec PyProof.Rows L2 VS
theorem sm60 {i : Int} (h : -1000 ≤ i) (h2 : i ≤ 1000) : Sm 60 i := by
  have z : (1000 : Nat) < 2 ^ 60 := by decide
  unfold Sm
  omega
def alph : Str := "abcdefghijklmnopqrstuvwxyz"
def letter (j : Nat) : Str := match gIx (.str alph) (.int (j : Nat)) with
  | some (.str x) => x
  | _ => Str.empty
def isOk (x : Str) : Bool := match m_is_name [.val (.str x)] with
  | some (.bl true, []) => true
  | _ => false
theorem isOk_nm {x : Str} (h : isOk x = true) : NmOk x := by
  unfold isOk at h
  split at h
  · rename_i e
    exact e
  · cases h
end Toy

set_option Elab.async false
set_option linter.all false
set_option maxRecDepth 100000
set_option maxHeartbeats 8000000
namespace Toy
open PySem PySem.Spec PyProof.Rows L2 VS
def vo' : Option D → Sl
  | none => .no
  | some d => .val d
def tupD (s : Stp) : D := .tup [.str s.nm, .int s.p, .int s.l, .tup (s.rd.map .str)]
theorem gLst7 {a b c d e f g : D} : VS.gLst [a, b, c, d, e, f, g] = some (.lst [a, b, c, d, e, f, g]) := by
  unfold VS.gLst
  rw [if_pos (by show 7 ≤ 1000000; decide)]
theorem kApp_of {i : Nat} {e : SE} {ρ ρ1 ρ2 : Rho} {ys xs : List D} {d : D} (h0 : conM ρ i = some ys) (h : e ρ = some (d, ρ1)) (h1 : conM ρ1 i = some xs) (hl : xs.length < LN) (h2 : setM ρ1 i (xs ++ [d]) = ρ2) : kApp i e ρ = some (.nx, ρ2) := by
  unfold kApp
  rw [h0, h]
  simp only [h1, hl, if_true, h2]
end Toy

set_option Elab.async false
set_option linter.all false
set_option maxRecDepth 100000
set_option maxHeartbeats 8000000
namespace Toy
open PySem PySem.Spec PyProof.Rows L2 VS
structure DrNet (ns : Nt) : Prop where
  ok : NtOk ns
  st : Steps ns
  ln : ns.length ≤ 4
  lc : lcmL (turns ns) ≤ 100000
  p : ∀ s ∈ ns, s.p ≤ 60
  l : ∀ s ∈ ns, 0 ≤ s.l ∧ s.l ≤ 100
  pr : ∀ j s t, ns[j]? = some s → ns[j + 1]? = some t → s.nm ∈ t.rd
  pd : prodL ((turns ns).drop 1) ≤ 1000
  one : 1 ≤ ns.length
theorem iR_len {a : SA} {ρ ρ1 : Rho} {n : Nat} (h : a ρ = some ([.int (n : Nat)], ρ1)) (hn : n ≤ 1000000) : iR a ρ = some ((List.range' 0 n).map fun j => .int (j : Nat), ρ1) := by
  unfold iR
  rw [h]
  have sm : small62 ((n : Nat) : Int) := ⟨by omega, by omega⟩
  simp only [sm, if_true, Int.toNat_natCast, rng]
  rw [← List.range_eq_range']
  congr 2
  exact List.map_congr_left fun i _ => by rw [Int.zero_add]
end Toy

set_option Elab.async false
set_option linter.all false
set_option maxRecDepth 100000
set_option maxHeartbeats 8000000
namespace Toy
open PySem PySem.Spec PyProof.Rows L2 VS
structure Pth (ns : Nt) (P : List Nat) : Prop where
  pi : ∀ i ∈ P, i < ns.length
  ne : P ≠ []
  st : ∀ j, j + 1 < P.length → ∃ s t : Stp, ns[atP P j]? = some s ∧ ns[atP P (j + 1)]? = some t ∧ s.nm ∈ t.rd
theorem sIxM_of {i : Nat} {b : SE} {ρ ρ1 : Rho} {ys xs : List D} {k : Int} {d : D} (h0 : conM ρ i = some ys) (h : b ρ = some (.int k, ρ1)) (h1 : conM ρ1 i = some xs) (h2 : L2.atI xs k = some d) : sIxM i b ρ = some (d, ρ1) := by
  unfold sIxM
  rw [h0, h]
  simp only [h1, h2]
end Toy

set_option Elab.async false
set_option linter.all false
set_option maxRecDepth 100000
set_option maxHeartbeats 8000000
namespace Toy
open PySem PySem.Spec PyProof.Rows L2 VS
def FrOk (p : Int × Int) : Prop := 0 < p.2 ∧ p.2 ≤ 1000 ∧ -1000000 ≤ p.1 ∧ p.1 ≤ 1000000
theorem sm60' {i : Int} (h : -1000000000 ≤ i) (h2 : i ≤ 1000000000) : Sm 60 i := by
  have z : (1000000000 : Nat) < 2 ^ 60 := by decide
  unfold Sm
  omega
def phB : SS := (kS (kSet 8 (s2 gSub (sCallM 2 m_law_draw 0 (aC (s2 gMul (s2 gMul (sK (.int 3)) (sV 5)) (sV 3)) aN)) (sCallM 2 m_law_pick 0 (aC (sL VS.gLst (aC (sK (.int 0)) (aC (sK (.int 0)) (aC (s2 gMul (sV 5) (sV 3)) aN)))) aN))))
    (kS (kApp 2 (sL gTup (aC (sV 8) (aC (sV 3) aN))))
    (kS (kIf (sB (s2 gEq (sCallM 2 m_law_draw 0 (aC (sK (.int 4)) aN)) (sK (.int 0))))
    (kPut 2 (s1 gNeg (sK (.int 1))) (sL gTup (aC (sCallM 2 m_law_draw 0 (aC (s2 gMul (sK (.int 2)) (sV 5)) aN)) (aC (sK (.int 1)) aN)))) kN)
    (kIf (sB (s2 gEq (sCallM 2 m_law_draw 0 (aC (sK (.int 8)) aN)) (sK (.int 0))))
    (kPut 2 (s1 gNeg (sK (.int 1))) (sL gTup (aC (s2 gMul (s2 gIx (sIxM 2 (s1 gNeg (sK (.int 1)))) (sK (.int 0))) (sK (.int 3))) (aC (s2 gMul (s2 gIx (sIxM 2 (s1 gNeg (sK (.int 1)))) (sK (.int 1))) (sK (.int 3))) aN)))) kN))))
theorem kPut_of {i : Nat} {k e : SE} {ρ ρ1 ρ2 ρ3 : Rho} {ys xs : List D} {d : D} {j : Int} {n : Nat} (h : e ρ = some (d, ρ1)) (h0 : conM ρ1 i = some ys) (hk : k ρ1 = some (.int j, ρ2)) (h1 : conM ρ2 i = some xs) (hn : ixN xs.length j = some n) (h2 : setM ρ2 i (xs.set n d) = ρ3) : kPut i k e ρ = some (.nx, ρ3) := by
  unfold kPut
  rw [h]
  simp only [h0, hk, h1, hn, h2]
theorem ixN_m1 {n : Nat} : ixN (n + 1) (-1) = some n := by
  unfold ixN
  rw [if_neg (by decide), if_pos (by omega)]
  congr 1
  omega
theorem set_last (l : List (Int × Int)) (p q : Int × Int) : ((l ++ [p]).map frD).set l.length (frD q) = (l ++ [q]).map frD := by
  rw [List.map_append, List.map_append, List.set_append_right _ _ (by rw [List.length_map]; exact Nat.le_refl _)]
  rw [List.length_map, Nat.sub_self]
  rfl
theorem ph_body {s : Stp} (hp0 : 0 < s.p) (hp1 : s.p ≤ 60) {mn : Int} (m0 : 0 < mn) (m1 : mn ≤ 60) {N : D} {l : List (Int × Int)} (hl : l.length ≤ 100) {k : Nat} {xs : List D} {o8 : Option D} (h : PuB k xs) (hk : k ≤ 400000) :
    ∃ q ys o8', FrOk q ∧ phB [.bor xs, .val N, .own (l.map frD), .val (.int mn), .val (.str s.nm), .val (.int s.p), .val (.int s.l), .val (.tup (s.rd.map .str)), vo' o8] =
      some (.nx, [.bor ys, .val N, .own ((l ++ [q]).map frD), .val (.int mn), .val (.str s.nm), .val (.int s.p), .val (.int s.l), .val (.tup (s.rd.map .str)), vo' o8']) ∧ PuB (k + 10) ys := by
  have p1 : 0 < s.p * mn := Int.mul_pos hp0 m0
  have p2 : s.p * mn ≤ 60 * mn := Int.mul_le_mul_of_nonneg_right hp1 (Int.le_of_lt m0)
  have q1 : 3 * s.p * mn = 3 * (s.p * mn) := Int.mul_assoc _ _ _
  have bd : ∀ {n : Int}, -1000000000 ≤ n → n ≤ 1000000000 → Bd n := fun h h2 => (sm60' h h2).bd (by decide)
  have b3 : Bd 3 := bd (by decide) (by decide)
  have b2 : Bd 2 := bd (by decide) (by decide)
  have bp : Bd s.p := bd (by omega) (by omega)
  have bm : Bd mn := bd (by omega) (by omega)
  have b3p : Bd (3 * s.p) := bd (by omega) (by omega)
  obtain ⟨d, ys, e1, l1, u1, h1⟩ := law_draw_eq (m := 3 * s.p * mn) h (by omega) (by omega) ((sm60' (by omega) (by omega)).mono (by decide))
  obtain ⟨n, x, zs, e2, e3, h2⟩ := law_pick_eq (its := [.int 0, .int 0, .int (s.p * mn)]) h1 (by omega) (by show 0 < 3; decide) (by show 3 < 1000000; decide)
  obtain ⟨t, rfl, t0, t1⟩ : ∃ t : Int, x = .int t ∧ 0 ≤ t ∧ t ≤ 3600 := by
    match n, e3 with
    | 0, q => exact ⟨0, (Option.some.inj q).symm, by decide, by decide⟩
    | 1, q => exact ⟨0, (Option.some.inj q).symm, by decide, by decide⟩
    | 2, q => exact ⟨s.p * mn, (Option.some.inj q).symm, by omega, by omega⟩
    | n + 3, q => cases q
  have g3 : VS.gLst [.int 0, .int 0, .int (s.p * mn)] = some (.lst [.int 0, .int 0, .int (s.p * mn)]) := by
    unfold VS.gLst
    rw [if_pos (by show 3 ≤ 1000000; decide)]
  -- the third statement
  obtain ⟨d4, us, e4, l4, u4, h4⟩ := law_draw_eq (m := 4) h2 (by omega) (by decide) (sm_of (k := 3000) (by decide) (by decide +kernel))
  have lm : ∀ q : Int × Int, ((l ++ [q]).map frD).length = l.length + 1 := fun q => by simp
  have gn : gNeg (.int 1) = some (.int (-1)) := rfl
  have ix : ∀ q : Int × Int, ixN ((l ++ [q]).map frD).length (-1) = some l.length := fun q => by rw [lm]; exact ixN_m1
  obtain ⟨q, vs', f1, r1, h5⟩ : ∃ (q : Int × Int) (vs' : List D), (0 < q.2 ∧ q.2 ≤ 60 ∧ -100000 ≤ q.1 ∧ q.1 ≤ 100000) ∧
      kIf (sB (s2 gEq (sCallM 2 m_law_draw 0 (aC (sK (.int 4)) aN)) (sK (.int 0)))) (kPut 2 (s1 gNeg (sK (.int 1))) (sL gTup (aC (sCallM 2 m_law_draw 0 (aC (s2 gMul (sK (.int 2)) (sV 5)) aN)) (aC (sK (.int 1)) aN)))) kN
        [.bor zs, .val N, .own ((l ++ [(d - t, mn)]).map frD), .val (.int mn), .val (.str s.nm), .val (.int s.p), .val (.int s.l), .val (.tup (s.rd.map .str)), .val (.int (d - t))] =
        some (.nx, [.bor vs', .val N, .own ((l ++ [q]).map frD), .val (.int mn), .val (.str s.nm), .val (.int s.p), .val (.int s.l), .val (.tup (s.rd.map .str)), .val (.int (d - t))]) ∧ PuB (k + 4) vs' := by
    by_cases z : d4 = 0
    · obtain ⟨d5, ws, e5, l5, u5, h5⟩ := law_draw_eq (m := 2 * s.p) h4 (by omega) (by omega) ((sm60' (by omega) (by omega)).mono (by decide))
      have g : gEq (.int d4) (.int 0) = some (.bl true) := by rw [gEq_int, decide_eq_true z]
      refine ⟨(d5, 1), ws, ⟨by show (0 : Int) < 1; decide, by show (1 : Int) ≤ 60; decide, by show -100000 ≤ d5; omega, by show d5 ≤ 100000; omega⟩, ?_, h5⟩
      exact kIf_t (sB_of (s2_of (callM rfl (aC_of rfl rfl) rfl rfl e4 rfl) rfl g)) (kPut_of (sL_of (aC_of (callM rfl (aC_of (s2_of rfl rfl (gMul_eq b2 bp)) rfl) rfl rfl e5 rfl) (aC_of rfl rfl)) gTup2) rfl (s1_of rfl gn) rfl (ix _) (by rw [show (D.tup [.int d5, .int 1]) = frD (d5, 1) from rfl, set_last]; rfl))
    · have g : gEq (.int d4) (.int 0) = some (.bl false) := by rw [gEq_int, decide_eq_false z]
      refine ⟨(d - t, mn), us, ⟨m0, m1, by show -100000 ≤ d - t; omega, by show d - t ≤ 100000; omega⟩, ?_, h4.mono (by omega)⟩
      exact kIf_f (sB_of (s2_of (callM rfl (aC_of rfl rfl) rfl rfl e4 rfl) rfl g)) rfl
  -- the fourth
  obtain ⟨d6, ws, e6, l6, u6, h6⟩ := law_draw_eq (m := 8) h5 (by omega) (by decide) (sm_of (k := 3000) (by decide) (by decide +kernel))
  obtain ⟨q', f2, r2⟩ : ∃ (q' : Int × Int), FrOk q' ∧
      kIf (sB (s2 gEq (sCallM 2 m_law_draw 0 (aC (sK (.int 8)) aN)) (sK (.int 0)))) (kPut 2 (s1 gNeg (sK (.int 1))) (sL gTup (aC (s2 gMul (s2 gIx (sIxM 2 (s1 gNeg (sK (.int 1)))) (sK (.int 0))) (sK (.int 3))) (aC (s2 gMul (s2 gIx (sIxM 2 (s1 gNeg (sK (.int 1)))) (sK (.int 1))) (sK (.int 3))) aN)))) kN
        [.bor vs', .val N, .own ((l ++ [q]).map frD), .val (.int mn), .val (.str s.nm), .val (.int s.p), .val (.int s.l), .val (.tup (s.rd.map .str)), .val (.int (d - t))] =
        some (.nx, [.bor ws, .val N, .own ((l ++ [q']).map frD), .val (.int mn), .val (.str s.nm), .val (.int s.p), .val (.int s.l), .val (.tup (s.rd.map .str)), .val (.int (d - t))]) := by
    obtain ⟨f3, f4, f5, f6⟩ := f1
    by_cases z : d6 = 0
    · have g : gEq (.int d6) (.int 0) = some (.bl true) := by rw [gEq_int, decide_eq_true z]
      have la : L2.atI ((l ++ [q]).map frD) (-1) = some (frD q) := by
        rw [atI_m1 (lm q)]
        exact map_get (by simp)
      have a0 : gIx (frD q) (.int 0) = some (.int q.1) := rfl
      have a1 : gIx (frD q) (.int 1) = some (.int q.2) := rfl
      refine ⟨(q.1 * 3, q.2 * 3), ⟨by show 0 < q.2 * 3; omega, by show q.2 * 3 ≤ 1000; omega, by show -1000000 ≤ q.1 * 3; omega, by show q.1 * 3 ≤ 1000000; omega⟩, ?_⟩
      exact kIf_t (sB_of (s2_of (callM rfl (aC_of rfl rfl) rfl rfl e6 rfl) rfl g)) (kPut_of (sL_of (aC_of (s2_of (s2_of (sIxM_of rfl (s1_of rfl gn) rfl la) rfl a0) rfl (gMul_eq (bd (by omega) (by omega)) b3)) (aC_of (s2_of (s2_of (sIxM_of rfl (s1_of rfl gn) rfl la) rfl a1) rfl (gMul_eq (bd (by omega) (by omega)) b3)) rfl)) gTup2) rfl (s1_of rfl gn) rfl (ix _)
        (by rw [show (D.tup [.int (q.1 * 3), .int (q.2 * 3)]) = frD (q.1 * 3, q.2 * 3) from rfl, set_last]; rfl))
    · have g : gEq (.int d6) (.int 0) = some (.bl false) := by rw [gEq_int, decide_eq_false z]
      refine ⟨q, ⟨f3, by omega, by omega, by omega⟩, ?_⟩
      exact kIf_f (sB_of (s2_of (callM rfl (aC_of rfl rfl) rfl rfl e6 rfl) rfl g)) rfl
  refine ⟨q', ws, some (.int (d - t)), f2, ?_, h6.mono (by omega)⟩
  have ap : l.map frD ++ [D.tup [.int (d - t), .int mn]] = (l ++ [(d - t, mn)]).map frD := by rw [List.map_append]; rfl
  have ll : (l.map frD).length < LN := by
    rw [List.length_map]
    exact Nat.lt_of_le_of_lt hl (by decide)
  unfold phB
  exact kS_nx (ρ1 := [.bor zs, .val N, .own (l.map frD), .val (.int mn), .val (.str s.nm), .val (.int s.p), .val (.int s.l), .val (.tup (s.rd.map .str)), .val (.int (d - t))])
    (kSet_to' (s2_of (callM rfl (aC_of (s2_of (s2_of rfl rfl (gMul_eq b3 bp)) rfl (gMul_eq b3p bm)) rfl) rfl rfl e1 rfl) (callM rfl (aC_of (sL_of (aC_of rfl (aC_of rfl (aC_of (s2_of rfl rfl (gMul_eq bp bm)) rfl))) g3) rfl) rfl rfl e2 rfl) gSub_eq) rfl)
    (kS_nx (kApp_of rfl (sL_of (aC_of rfl (aC_of rfl rfl)) gTup2) rfl ll (by rw [ap]; rfl)) (kS_nx r1 r2))
theorem ph_loop {mn : Int} (m0 : 0 < mn) (m1 : mn ≤ 60) (N : D) : ∀ (ss : List Stp) (l : List (Int × Int)) (k : Nat) (xs : List D) (o4 o5 o6 o7 o8 : Option D), (∀ s ∈ ss, 0 < s.p ∧ s.p ≤ 60) → (∀ q ∈ l, FrOk q) → l.length + ss.length ≤ 50 → PuB k xs → k + 10 * ss.length ≤ 300000 →
    ∃ (l' : List (Int × Int)) (ys : List D) (p4 p5 p6 p7 p8 : Option D), (∀ q ∈ l', FrOk q) ∧ l'.length = l.length + ss.length ∧ kLoop (.tp [4, 5, 6, 7]) phB (ss.map tupD) [.bor xs, .val N, .own (l.map frD), .val (.int mn), vo' o4, vo' o5, vo' o6, vo' o7, vo' o8] =
      some (.nx, [.bor ys, .val N, .own (l'.map frD), .val (.int mn), vo' p4, vo' p5, vo' p6, vo' p7, vo' p8]) ∧ PuB (k + 10 * ss.length) ys
  | [], l, k, xs, o4, o5, o6, o7, o8, _, hq, _, h, _ => ⟨l, xs, o4, o5, o6, o7, o8, hq, rfl, rfl, h⟩
  | s :: ss, l, k, xs, o4, o5, o6, o7, o8, hs, hq, hl, h, hk => by
    simp at hl hk
    obtain ⟨q, ys, o8', f, e1, h1⟩ := ph_body (s := s) (N := N) (l := l) (o8 := o8) (hs s List.mem_cons_self).1 (hs s List.mem_cons_self).2 m0 m1 (by omega) h (by omega)
    obtain ⟨l', zs, p4, p5, p6, p7, p8, f2, l2, e2, h2⟩ := ph_loop m0 m1 N ss (l ++ [q]) (k + 10) ys (some (.str s.nm)) (some (.int s.p)) (some (.int s.l)) (some (.tup (s.rd.map .str))) o8' (fun t ht => hs t (List.mem_cons_of_mem _ ht)) (fun t ht => by
      rcases List.mem_append.mp ht with z | z
      · exact hq t z
      · rw [List.mem_singleton] at z; rw [z]; exact f) (by simp; omega) h1 (by omega)
    exact ⟨l', zs, p4, p5, p6, p7, p8, f2, by rw [l2]; simp; omega, kLoop_nx rfl e1 e2, h2.mono (by simp; omega)⟩
theorem kParL_of {i j : Nat} {a : SA} {e : SE} {ρ ρ1 ρ2 r ρ3 : Rho} {xs : List D} {d : D} (h : a ρ = some (xs, ρ1)) (hl : xs.length ≤ LN) (h2 : e (blkR [] ρ1) = some (d, ρ2)) (h3 : restore ρ1 ρ2 = some r) (h4 : (r.set j (.val d)).set i (.own xs) = ρ3) : kParL i j a e ρ = some (.nx, ρ3) := by
  unfold kParL
  rw [h]
  simp only [hl, if_true, h2, h3, h4]
theorem law_phases_fr {ns : Nt} (N : DrNet ns) {k : Nat} {xs : List D} (h : PuB k xs) (hk : k ≤ 200000) : ∃ ph ys, m_law_phases [.bor xs, .val (.tup (ns.map tupD))] = some (.tup (ph.map frD), ys) ∧ (∀ q ∈ ph, FrOk q) ∧ Phs ph ∧ ph.length = ns.length ∧ PuB (k + 50) ys := by
  have n4 := N.ln
  obtain ⟨n, x, zs, e2, e3, h2⟩ := law_pick_eq (its := [.int 1, .int 1, .int 2, .int 3, .int 4, .int 7, .int 60]) h (by omega) (by show 0 < 7; decide) (by show 7 < 1000000; decide)
  obtain ⟨t, rfl, t0, t1⟩ : ∃ t : Int, x = .int t ∧ 0 < t ∧ t ≤ 60 := by
    match n, e3 with
    | 0, q => exact ⟨1, (Option.some.inj q).symm, by decide, by decide⟩
    | 1, q => exact ⟨1, (Option.some.inj q).symm, by decide, by decide⟩
    | 2, q => exact ⟨2, (Option.some.inj q).symm, by decide, by decide⟩
    | 3, q => exact ⟨3, (Option.some.inj q).symm, by decide, by decide⟩
    | 4, q => exact ⟨4, (Option.some.inj q).symm, by decide, by decide⟩
    | 5, q => exact ⟨7, (Option.some.inj q).symm, by decide, by decide⟩
    | 6, q => exact ⟨60, (Option.some.inj q).symm, by decide, by decide⟩
    | n + 7, q => cases q
  obtain ⟨ph, us, p4, p5, p6, p7, p8, f, l, e4, h4⟩ := ph_loop t0 t1 (.tup (ns.map tupD)) ns [] (k + 1) zs none none none none none (fun s hs => ⟨(N.st.1 s hs).1, N.p s hs⟩) (fun q hq => by cases hq) (by simp; omega) h2 (by omega)
  have pl : ph.length = ns.length := by rw [l]; simp
  refine ⟨ph, us, ?_, f, ⟨fun q hq => ?_, by omega⟩, pl, h4.mono (by omega)⟩
  · refine mir_rt (ρ0 := [.bor xs, .val (.tup (ns.map tupD)), .no, .no, .no, .no, .no, .no, .no]) (ρ := [.bor us, .val (.tup (ns.map tupD)), .val (.lst (ph.map frD)), .val (.int t), vo' p4, vo' p5, vo' p6, vo' p7, vo' p8]) rfl ?_ rfl
    refine kS_nx (ρ1 := [.bor zs, .val (.tup (ns.map tupD)), .own [], .val (.int t), .no, .no, .no, .no, .no]) (kParL_of rfl (by decide) (callM rfl (aC_of (sL_of (aC_of rfl (aC_of rfl (aC_of rfl (aC_of rfl (aC_of rfl (aC_of rfl (aC_of rfl rfl))))))) gLst7) rfl) rfl rfl e2 rfl) rfl rfl) ?_
    refine kS_nx (kFor_of rfl e4) ?_
    exact kRet_of (sL_of (aC_of rfl rfl) rfl)
  · obtain ⟨a1, a2, a3, a4⟩ := f q hq
    exact ⟨a1, sm60' (by omega) (by omega), sm60' (by omega) (by omega)⟩
end Toy

set_option Elab.async false
set_option linter.all false
set_option maxRecDepth 100000
set_option maxHeartbeats 8000000
namespace Toy
open PySem PySem.Spec PyProof.Rows L2 VS
section
variable {ns : Nt} {S : List Int} {sc : Int} {P : List Nat} {m : Nat}
theorem bw_fold : ∀ (l : List Nat) (best : Option Int),
    (∀ i ∈ l, inc ns S sc P m i → ∃ v, l.foldl (bw ns S sc P m) best = some v ∧ wt ns S sc P m i ≤ v) ∧
    (∀ b, best = some b → ∃ v, l.foldl (bw ns S sc P m) best = some v ∧ b ≤ v) ∧
    (∀ v, l.foldl (bw ns S sc P m) best = some v → best = some v ∨ ∃ i ∈ l, inc ns S sc P m i ∧ wt ns S sc P m i = v)
  | [], best => ⟨fun i h => (by cases h), fun b e => ⟨b, e, Int.le_refl _⟩, fun v e => .inl e⟩
  | j :: l, best => by
    obtain ⟨h1, h2, h3⟩ := bw_fold l (bw ns S sc P m best j)
    rw [List.foldl_cons]
    refine ⟨fun i hi z => ?_, fun b e => ?_, fun v e => ?_⟩
    · rcases List.mem_cons.mp hi with rfl | hi
      · cases e : best with
        | none =>
          have : bw ns S sc P m best i = some (wt ns S sc P m i) := by unfold bw; rw [if_pos z, e]
          rw [← e]
          exact h2 _ this
        | some b =>
          by_cases g : b < wt ns S sc P m i
          · have : bw ns S sc P m best i = some (wt ns S sc P m i) := by unfold bw; rw [if_pos z, e]; simp only [if_pos g]
            rw [← e]
            exact h2 _ this
          · have : bw ns S sc P m best i = some b := by unfold bw; rw [if_pos z, e]; simp only [if_neg g]
            obtain ⟨v, e1, e2⟩ := h2 _ this
            rw [← e]
            exact ⟨v, e1, by omega⟩
      · exact h1 i hi z
    · subst e
      by_cases z : inc ns S sc P m j
      · by_cases g : b < wt ns S sc P m j
        · have : bw ns S sc P m (some b) j = some (wt ns S sc P m j) := by unfold bw; rw [if_pos z]; simp only [if_pos g]
          obtain ⟨v, e1, e2⟩ := h2 _ this
          exact ⟨v, e1, by omega⟩
        · have : bw ns S sc P m (some b) j = some b := by unfold bw; rw [if_pos z]; simp only [if_neg g]
          exact h2 _ this
      · have : bw ns S sc P m (some b) j = some b := by unfold bw; rw [if_neg z]
        exact h2 _ this
    · rcases h3 v e with q | ⟨i, hi, z, w⟩
      · by_cases z : inc ns S sc P m j
        · cases e : best with
          | none =>
            have : bw ns S sc P m best j = some (wt ns S sc P m j) := by unfold bw; rw [if_pos z, e]
            rw [this] at q
            exact .inr ⟨j, List.mem_cons_self, z, Option.some.inj q⟩
          | some b =>
            by_cases g : b < wt ns S sc P m j
            · have : bw ns S sc P m best j = some (wt ns S sc P m j) := by unfold bw; rw [if_pos z, e]; simp only [if_pos g]
              rw [this] at q
              exact .inr ⟨j, List.mem_cons_self, z, Option.some.inj q⟩
            · have : bw ns S sc P m best j = some b := by unfold bw; rw [if_pos z, e]; simp only [if_neg g]
              rw [this] at q
              exact .inl q
        · have : bw ns S sc P m best j = best := by unfold bw; rw [if_neg z]
          rw [this] at q
          exact .inl q
      · exact .inr ⟨i, List.mem_cons_of_mem _ hi, z, w⟩
theorem Ask.pd (A : Ask ns S sc P m) {i : Nat} (h : i ≤ m) : 0 < pp ns (atP P i) ∧ pp ns (atP P i) ∣ lcmL (turns ns) := by
  obtain ⟨q1, q2⟩ := A.place h
  obtain ⟨s, e1, p1, l1, h1, h2, h3⟩ := A.step q2
  rw [p1]
  exact ⟨h1, lcmF_mem (List.mem_map.mpr ⟨s, List.mem_of_getElem? e1, rfl⟩)⟩
theorem rr_mono (A : Ask ns S sc P m) {k : Nat} (hk : k + 1 ≤ m) {x y : Int} (h : x ≤ y) : rr ns S sc (atP P (k + 1)) (atP P k) x ≤ rr ns S sc (atP P (k + 1)) (atP P k) y := by
  have p1 := (A.pd hk).1
  have p2 := (A.pd (i := k) (by omega)).1
  unfold rr
  refine Int.ediv_le_ediv (Int.mul_pos p2 A.c0) ?_
  have h1 : x * pp ns (atP P (k + 1)) ≤ y * pp ns (atP P (k + 1)) := Int.mul_le_mul_of_nonneg_right h (Int.le_of_lt p1)
  have h2 := Int.mul_le_mul_of_nonneg_right h1 (Int.le_of_lt A.c0)
  omega
theorem carry_mono (A : Ask ns S sc P m) : ∀ (k : Nat) {x y : Int}, k ≤ m → x ≤ y → carry ns S sc P k x ≤ carry ns S sc P k y
  | 0, _, _, _, h => h
  | k + 1, x, y, hk, h => carry_mono A k (by omega) (rr_mono A hk h)
theorem rr_turn (A : Ask ns S sc P m) {k : Nat} (hk : k + 1 ≤ m) (x : Int) : rr ns S sc (atP P (k + 1)) (atP P k) (x + lcmL (turns ns) / pp ns (atP P (k + 1))) = rr ns S sc (atP P (k + 1)) (atP P k) x + lcmL (turns ns) / pp ns (atP P k) := by
  obtain ⟨p1, d1⟩ := A.pd hk
  obtain ⟨p2, d2⟩ := A.pd (i := k) (by omega)
  have e1 := Int.ediv_mul_cancel d1
  have e2 := Int.ediv_mul_cancel d2
  have pos : 0 < pp ns (atP P k) * sc := Int.mul_pos p2 A.c0
  unfold rr
  have : ss S (atP P (k + 1)) + (x + lcmL (turns ns) / pp ns (atP P (k + 1))) * pp ns (atP P (k + 1)) * sc - ss S (atP P k) - ll ns (atP P k) * sc =
      ss S (atP P (k + 1)) + x * pp ns (atP P (k + 1)) * sc - ss S (atP P k) - ll ns (atP P k) * sc + lcmL (turns ns) / pp ns (atP P k) * (pp ns (atP P k) * sc) := by
    rw [Int.add_mul, e1, Int.add_mul, ← Int.mul_assoc (lcmL (turns ns) / pp ns (atP P k)), e2]
    omega
  rw [this, Int.add_mul_ediv_right _ _ (by omega)]
theorem carry_turn (A : Ask ns S sc P m) : ∀ (k : Nat) (x : Int), k ≤ m → carry ns S sc P k (x + lcmL (turns ns) / pp ns (atP P k)) = carry ns S sc P k x + lcmL (turns ns) / pp ns (atP P 0)
  | 0, _, _ => rfl
  | k + 1, x, hk => by
    show carry ns S sc P k (rr ns S sc _ _ _) = _
    rw [rr_turn A hk, carry_turn A k _ (by omega)]
    rfl
theorem tm_next (r q : Int) : tm ns S sc P m (r + 1) q = tm ns S sc P m r q + pp ns (atP P m) * sc := by
  unfold tm
  rw [Int.add_mul, Int.add_mul, Int.one_mul]
  omega
theorem tm_turn (A : Ask ns S sc P m) (r q : Int) : tm ns S sc P m (r + lcmL (turns ns) / pp ns (atP P m)) (q + lcmL (turns ns) / pp ns (atP P 0)) = tm ns S sc P m r q := by
  have e1 := Int.ediv_mul_cancel (A.pd (Nat.le_refl m)).2
  have e2 := Int.ediv_mul_cancel (A.pd (Nat.zero_le m)).2
  unfold tm
  rw [Int.add_mul, e1, Int.add_mul, Int.add_mul q, e2, Int.add_mul]
  omega
def ageI (ns : Nt) (S : List Int) (sc : Int) (P : List Nat) (m : Nat) (i : Int) : Int := tm ns S sc P m i (carry ns S sc P m i)
theorem age_turn (A : Ask ns S sc P m) (i : Int) : ageI ns S sc P m (i + lcmL (turns ns) / pp ns (atP P m)) = ageI ns S sc P m i := by
  unfold ageI
  rw [carry_turn A m i (Nat.le_refl m), tm_turn A]
theorem many_pos (A : Ask ns S sc P m) : 0 < manyR ns P m ∧ ((manyR ns P m : Nat) : Int) = lcmL (turns ns) / pp ns (atP P m) := by
  obtain ⟨p, d⟩ := A.pd (Nat.le_refl m)
  have t := turns_pos A.st
  have q := Int.ediv_pos_of_pos_of_dvd t (Int.le_of_lt p) d
  unfold manyR
  omega
theorem wait_is (A : Ask ns S sc P m) {hi : Int} (h1 : hi ∈ agesL ns S sc P m) (h2 : ∀ x ∈ agesL ns S sc P m, x ≤ hi) :
    (List.range (manyR ns P m)).foldl (bw ns S sc P m) none = some (hi + pp ns (atP P m) * sc) := by
  obtain ⟨n0, n1⟩ := many_pos A
  have T0 : 0 < pp ns (atP P m) * sc := Int.mul_pos (A.pd (Nat.le_refl m)).1 A.c0
  have up : ∀ i : Nat, i < manyR ns P m → ageI ns S sc P m (i : Nat) ≤ hi := fun i h => h2 _ (List.mem_map.mpr ⟨i, List.mem_range.mpr h, rfl⟩)
  have lastA : ageI ns S sc P m (-1) = ageI ns S sc P m ((manyR ns P m - 1 : Nat) : Int) := by
    have := age_turn A (-1)
    rw [← n1] at this
    rw [← this]
    congr 1
    omega
  have up' : ∀ i : Nat, i < manyR ns P m → ageI ns S sc P m (-1 + (i : Nat)) ≤ hi := fun i h => by
    by_cases z : i = 0
    · subst z
      have := up (manyR ns P m - 1) (by omega)
      rw [← lastA] at this
      exact this
    · have := up (i - 1) (by omega)
      have e : ((i - 1 : Nat) : Int) = -1 + (i : Nat) := by omega
      rw [e] at this
      exact this
  have wte : ∀ i : Nat, wt ns S sc P m i = ageI ns S sc P m (-1 + (i : Nat)) + pp ns (atP P m) * sc := fun i => by
    unfold wt ageI
    rw [← tm_next]
    congr 1
    omega
  obtain ⟨j, hj, ej⟩ := List.mem_map.mp h1
  have jl := List.mem_range.mp hj
  obtain ⟨i, il, ie⟩ : ∃ i : Nat, i < manyR ns P m ∧ ageI ns S sc P m (-1 + (i : Nat)) = hi := by
    by_cases z : j + 1 < manyR ns P m
    · refine ⟨j + 1, z, ?_⟩
      rw [show (-1 : Int) + ((j + 1 : Nat) : Int) = (j : Nat) by omega]
      exact ej
    · refine ⟨0, n0, ?_⟩
      have e : ageI ns S sc P m (-1) = hi := by
        rw [lastA, show manyR ns P m - 1 = j by omega]
        exact ej
      exact e
  have on : inc ns S sc P m i := by
    have mo := carry_mono A m (Nat.le_refl m) (show (-1 : Int) + (i : Nat) ≤ -1 + ((i + 1 : Nat) : Int) by omega)
    rcases Int.lt_or_eq_of_le mo with q | q
    · exact q
    · exfalso
      have e : (-1 : Int) + ((i + 1 : Nat) : Int) = (i : Nat) := by omega
      rw [e] at q
      have a1 := up i il
      have w1 := wte i
      unfold wt at w1
      rw [q] at w1
      have a2 : ageI ns S sc P m (i : Nat) = tm ns S sc P m (i : Nat) (carry ns S sc P m (i : Nat)) := rfl
      omega
  obtain ⟨f1, _, f3⟩ := bw_fold (ns := ns) (S := S) (sc := sc) (P := P) (m := m) (List.range (manyR ns P m)) none
  obtain ⟨v, e1, e2⟩ := f1 i (List.mem_range.mpr il) on
  rw [e1]
  rcases f3 v e1 with q | ⟨t, ht, z, w⟩
  · cases q
  · rw [wte] at e2 w
    have := up' t (List.mem_range.mp ht)
    congr 1
    omega
end
end Toy

set_option Elab.async false
set_option linter.all false
set_option maxRecDepth 100000
set_option maxHeartbeats 8000000
namespace Toy
open PySem PySem.Spec PyProof.Rows L2 VS
section
variable {ns : Nt} {S : List Int} {sc : Int} {P : List Nat} {m : Nat} {PH PA : D}
theorem run_carried_eq' (A : Ask ns S sc P m) {b : Nat} {run : Int} (h : Sm b run) (hb : 100 ≤ b) (hb2 : b + 465 * m ≤ 3400) :
    m_run_carried [.val (netD ns), .val (.lst (S.map .int)), .val (.int sc), .val (.lst (P.map fun i => .int (i : Nat))), .val (.int run)] = some (.int (carry ns S sc P m run), []) ∧ Sm (b + 465 * m) (carry ns S sc P m run) := by
  have pm := A.pm
  obtain ⟨y, e, e2⟩ := rc_loop A m b run .no (Nat.le_refl _) h hb hb2
  refine ⟨?_, e2⟩
  have l1 : ((P.map fun i => D.int (i : Nat)).length : Int) - 1 = (m : Nat) := by rw [List.length_map, A.pl]; omega
  have l2 : small62 (m : Int) := ⟨by omega, by omega⟩
  have l4 : small62 0 := ⟨by decide, by decide⟩
  have l3 : ((m : Int) - 0).toNat = m := by omega
  simp only [m_run_carried, b_run_carried, mir, List.length_cons, List.length_nil, Nat.zero_add, Nat.reduceAdd, Nat.reduceSub, List.cons_append, List.nil_append, List.replicate, kS, kFor, iRD, aC, aN, s2, s1, sL, sV, sK, List.getElem?_cons_zero, List.getElem?_cons_succ, gLen_lst, gNeg_int, gSub_eq, l1, l2, l4, and_self, if_true, l3, e, kRet, outOf]
theorem check_whole_eq (r : Int) : m_check_whole [.val (.int r)] = some (.non, []) := rfl
theorem carried_eq (A : Ask ns S sc P m) (E : Entry ns S sc P PH PA) {b : Nat} {run : Int} (h : Sm b run) (hb : 100 ≤ b) (hb2 : b + 465 * m ≤ 3400) :
    m_carried [.val (netD ns), .val PH, .val PA, .val (.int run)] = some (.int (carry ns S sc P m run), []) := by
  have e := (run_carried_eq' A h hb hb2).1
  exact mir_rt (ρ0 := [_, _, _, _, _, _]) rfl (kS_nx (kDrop_of (sCall_of (aC_of rfl (aC_of rfl rfl)) rfl E.c1)) (kS_nx (kDrop_of (sCall_of (aC_of rfl (aC_of rfl rfl)) rfl E.c2)) (kS_nx (kDrop_of (sCall_of (aC_of rfl rfl) rfl (check_whole_eq run))) (kS_nx (kTup_of (sCall_of (aC_of rfl rfl) rfl E.u) rfl)
    (kRet_of (sCall_of (aC_of rfl (aC_of rfl (aC_of rfl (aC_of (sCall_of (aC_of rfl (aC_of rfl rfl)) rfl E.p) (aC_of rfl rfl))))) rfl e)))))) rfl
theorem age_eq (A : Ask ns S sc P m) (E : Entry ns S sc P PH PA) {b : Nat} {run : Int} (h : Sm b run) (hb : 100 ≤ b) (hb2 : b + 465 * m ≤ 3400) :
    m_age [.val (netD ns), .val PH, .val PA, .val (.int run)] = some (lowD (ageI ns S sc P m run) sc, []) := by
  have e1 := carried_eq A E h hb hb2
  have e2 := A.age (h.mono (by omega)) ((run_carried_eq' A h hb hb2).2.mono (by omega))
  have l1 := lowest_eq (a := ageI ns S sc P m run) A.c0 (A.bc.mono (by decide))
  exact mir_rt (ρ0 := [_, _, _, _, _, _, _]) rfl (kS_nx (kSet_of (sCall_of (aC_of rfl (aC_of rfl (aC_of rfl (aC_of rfl rfl)))) rfl e1)) (kS_nx (kTup_of (sCall_of (aC_of rfl rfl) rfl E.u) rfl)
    (kRet_of (sCall_of (aC_of (sCall_of (aC_of rfl (aC_of rfl (aC_of rfl (aC_of (sCall_of (aC_of rfl (aC_of rfl rfl)) rfl E.p) (aC_of rfl (aC_of rfl rfl)))))) rfl e2) (aC_of rfl rfl)) rfl l1)))) rfl
end
theorem run_loop : ∀ (l : List Nat) (k : Nat) (xs : List D) (n B : Int) (x2 : Sl), PuB k xs → k + l.length ≤ 500000 → 0 ≤ n → n < B → Sm 300 B → l.length ≤ 10 → 0 < B → B * 1000 ^ l.length ≤ 2 ^ 99 → ∃ n' ys y2, 0 ≤ n' ∧ n' < 2 ^ 99 ∧
    kLoop (.nm 2) (kSet 1 (s2 gAdd (s2 gMul (sV 1) (sK (.int 1000))) (sCallM 2 m_law_draw 0 (aC (sK (.int 999)) aN)))) (l.map fun j => .int (j : Nat)) [.bor xs, .val (.int n), x2] = some (.nx, [.bor ys, .val (.int n'), y2]) ∧ PuB (k + l.length) ys
  | [], k, xs, n, B, x2, h, _, n0, n1, _, _, _, hB => ⟨n, xs, x2, n0, by rw [List.length_nil, Int.pow_zero, Int.mul_one] at hB; omega, rfl, h⟩
  | j :: l, k, xs, n, B, x2, h, hk, n0, n1, sB', hl, B0, hB => by
    obtain ⟨d, ys, e1, l1, u1, h1⟩ := law_draw_eq (m := 999) h (by simp at hk; omega) (by decide) (sm_of (k := 3000) (by decide) (by decide +kernel))
    rw [List.length_cons, Int.pow_succ', ← Int.mul_assoc] at hB
    have pw : 1 ≤ (1000 : Int) ^ l.length := Int.pow_pos (by decide)
    have B9 : B * 1000 ≤ 2 ^ 99 := by
      have : B * 1000 * 1 ≤ B * 1000 * 1000 ^ l.length := Int.mul_le_mul_of_nonneg_left pw (by omega)
      omega
    obtain ⟨n', zs, y2, a1, a2, a3, a4⟩ := run_loop l (k + 1) ys (n * 1000 + d) (B * 1000) (.val (.int (j : Nat))) h1 (by simp at hk; omega) (by omega) (by omega) (sm_of (by omega) (Int.lt_of_le_of_lt B9 (by decide +kernel))) (by simp at hl; omega) (by omega) hB
    have bn : Bd n := (sm_of (k := 99) n0 (by omega) : Sm 99 n).bd (by decide)
    have bk : Bd 1000 := (sm60 (by decide) (by decide)).bd (by decide)
    exact ⟨n', zs, y2, a1, a2, kLoop_nx rfl (kSet_to' (s2_of (s2_of rfl rfl (gMul_eq bn bk)) (callM rfl (aC_of rfl rfl) rfl rfl e1 rfl) gAdd_eq) rfl) a3, a4.mono (by simp; omega)⟩
theorem law_run_eq {k : Nat} {xs : List D} (h : PuB k xs) (hk : k ≤ 200000) : ∃ r ys, m_law_run [.bor xs] = some (.int r, ys) ∧ Sm 100 r ∧ PuB (k + 20) ys := by
  obtain ⟨d, ys, e1, l1, u1, h1⟩ := law_draw_eq (m := 50) h (by omega) (by decide) (sm_of (k := 3000) (by decide) (by decide +kernel))
  obtain ⟨n, x, zs, e2, e3, h2⟩ := law_pick_eq (its := [.int 0, .int 0, .int 0, .int 1, .int 9]) h1 (by omega) (by show 0 < 5; decide) (by show 5 < 1000000; decide)
  obtain ⟨t, rfl, t9⟩ : ∃ t : Nat, x = .int (t : Nat) ∧ t ≤ 9 := by
    match n, e3 with
    | 0, q => exact ⟨0, (Option.some.inj q).symm, by decide⟩
    | 1, q => exact ⟨0, (Option.some.inj q).symm, by decide⟩
    | 2, q => exact ⟨0, (Option.some.inj q).symm, by decide⟩
    | 3, q => exact ⟨1, (Option.some.inj q).symm, by decide⟩
    | 4, q => exact ⟨9, (Option.some.inj q).symm, by decide⟩
    | n + 5, q => cases q
  have big : (50 : Int) * 1000 ^ (List.range' 0 t).length ≤ 2 ^ 99 := by
    rw [List.length_range']
    have q : ((List.range 10).all fun t => decide ((50 : Int) * 1000 ^ t ≤ 2 ^ 99)) = true := by decide +kernel
    exact of_decide_eq_true (List.all_eq_true.mp q t (List.mem_range.mpr (by omega)))
  obtain ⟨n', us, y2, a1, a2, e4, h4⟩ := run_loop (List.range' 0 t) (k + 1 + 1) zs d 50 .no h2 (by simp; omega) l1 u1 (sm_of (by decide) (by decide +kernel)) (by simp; omega) (by decide) big
  rw [List.length_range'] at h4
  obtain ⟨p, w, vs', e5, e6, h5⟩ := law_pick_eq (its := [.int 0, .int (2 * n')]) h4 (by omega) (by show 0 < 2; decide) (by show 2 < 1000000; decide)
  obtain ⟨v, rfl, hv⟩ : ∃ v : Int, w = .int v ∧ (v = 0 ∨ v = 2 * n') := by
    match p, e6 with
    | 0, q => exact ⟨0, (Option.some.inj q).symm, .inl rfl⟩
    | 1, q => exact ⟨2 * n', (Option.some.inj q).symm, .inr rfl⟩
    | n + 2, q => cases q
  have g5 : VS.gLst [.int 0, .int 0, .int 0, .int 1, .int 9] = some (.lst [.int 0, .int 0, .int 0, .int 1, .int 9]) := by
    unfold VS.gLst
    rw [if_pos (by decide)]
  have g2 : VS.gLst [.int 0, .int (2 * n')] = some (.lst [.int 0, .int (2 * n')]) := by
    unfold VS.gLst
    rw [if_pos (by show 2 ≤ 1000000; decide)]
  have b2 : Bd 2 := (sm60 (by decide) (by decide)).bd (by decide)
  have bn : Bd n' := (sm_of (k := 99) a1 a2 : Sm 99 n').bd (by decide)
  have sr : Sm 100 (n' - v) := by
    have z : (2 : Nat) ^ 99 < 2 ^ 100 := by decide
    have q : (n'.natAbs : Nat) < 2 ^ 99 := sm_of (k := 99) a1 a2
    unfold Sm
    rcases hv with rfl | rfl <;> omega
  refine ⟨n' - v, vs', ?_, sr, h5.mono (by omega)⟩
  refine mir_rt (ρ0 := [.bor xs, .no, .no]) (ρ := [.bor vs', .val (.int n'), y2]) rfl ?_ rfl
  refine kS_nx (ρ1 := [.bor ys, .val (.int d), .no]) (kSet_to' (callM rfl (aC_of rfl rfl) rfl rfl e1 rfl) rfl) ?_
  refine kS_nx (kFor_of (iR_len (aC_of (callM rfl (aC_of (sL_of (aC_of rfl (aC_of rfl (aC_of rfl (aC_of rfl (aC_of rfl rfl))))) g5) rfl) rfl rfl e2 rfl) rfl) (by omega)) e4) ?_
  exact kRet_of (s2_of rfl (callM rfl (aC_of (sL_of (aC_of rfl (aC_of (s2_of rfl rfl (gMul_eq b2 bn)) rfl)) g2) rfl) rfl rfl e5 rfl) gSub_eq)
end Toy

set_option Elab.async false
set_option linter.all false
set_option maxRecDepth 100000
set_option maxHeartbeats 8000000
namespace Toy
open PySem PySem.Spec PyProof.Rows L2 VS
theorem dr_ask {ns : Nt} {P : List Nat} {ph : List (Int × Int)} {m : Nat} (N : DrNet ns) (h : Phs ph) (hl : ph.length = ns.length) (hP : Pth ns P) (hm : P.length = m + 1) (m6 : m ≤ 6) : Ask ns (unitL ph) (unitS ph) P m where
  st := N.st
  len := by unfold unitL; rw [List.length_map]; exact hl
  bS := fun x hx => by
    unfold unitL at hx
    obtain ⟨p, hp, rfl⟩ := List.mem_map.mp hx
    exact ((h.1 p hp).2.2.mul (h.q hp)).mono (by decide)
  c0 := h.pos
  bc := h.sm
  pl := hm
  pm := m6
  pi := hP.pi
  lc := N.lc
theorem dr_entry {ns : Nt} {P : List Nat} {ph : List (Int × Int)} (N : DrNet ns) (h : Phs ph) (hl : ph.length = ns.length) (hP : Pth ns P) (h4 : P.length ≤ 4000) : Entry ns (unitL ph) (unitS ph) P (.tup (ph.map frD)) (.lst (pathD ns P)) where
  c1 := check_both_eq h hl
  c2 := check_path_eq ⟨N.ok, hP.pi, hP.ne, hP.st, h4⟩
  u := in_units_eq h
  p := places_of_eq ⟨N.ok, hP.pi, hP.ne, hP.st, h4⟩
section
variable {ns : Nt} {S : List Int} {sc : Int} {P : List Nat} {m : Nat}
end
end Toy

set_option Elab.async false
set_option linter.all false
set_option maxRecDepth 100000
set_option maxHeartbeats 1000000
namespace Toy.R13
open PySem PySem.Spec PyProof.Rows L2 VS
def OptS (g : D) : Prop := ∃ t, shD oNo g = some t ∧ t.length ≤ 4000 ∧ dpD g ≤ 10
theorem show_of {d : D} {t : Str} (h : shD oNo d = some t) (h1 : t.length ≤ 4000) (h2 : dpD d ≤ 10) : gShow oNo [d] = some (.str t) := by
  unfold gShow
  cases d with
  | adr a => cases h
  | _ =>
    simp only [h]
    rw [if_pos ⟨Nat.le_trans h1 (by decide), Nat.le_trans h2 (by decide)⟩]
theorem ne_str (T : Str) : gNe (.str T) (.str T) = some (.bl false) := by
  simp [gNe, eqD, scalE]
theorem eq_str (T : Str) : gEq (.str T) (.str T) = some (.bl true) := by
  simp [gEq, eqD, scalE]
def Kinds13 : List (Nat × Nat) := [(3, 0), (4, 1), (6, 2), (5, 3), (7, 4)]
def spRef (G : Gx) : Sp := fun vs H Q _ => ∃ (F : Hp) (vg : V) (w pl kd : Nat) (ds : List D) (d : D) (k : Nat), Ext F H ∧ TbOk G.T F H ∧ vs = [.int (w : Nat), vg, .int (pl : Nat), .int (kd : Nat)] ∧ Rep G F vg (.lst ds) ∧ ds[pl]? = some d ∧
  mx_law_called [.val (.int (w : Nat)), .val (.lst ds)] = some (.xc k d) ∧ (k, kd) ∈ Kinds13 ∧ OptS (unD d) ∧
  ((gIsTy2 3 (unD d) = some (.bl false) ∧ ∀ H' F', Keep G.T [] F H F' H' → Q (.bl true) H') ∨
   ∃ p us xs, d = .bth p (.lst xs) ∧ F p = some (.lst us) ∧ (∀ F' us', Reps G F' us' ds → Reps G F' us' xs → False) ∧ noLs us.length xs = true ∧ us.length ≤ 1000 ∧ OptS (.lst (xs ++ [.str "more"])) ∧
     ∀ H', (∀ q o, H q = some o → q ≠ p → (∀ ps, o ≠ .tbl ps) → H' q = some o) → (∀ q o, H q = some o → ∃ o', H' q = some o') → LamX.Tabs G.T H' → Q (.bl true) H')
section
variable {G : Gx} {c : VS.Ctx} {F H : Hp} {σ : L2.St} {ρ ρ' : Rho} {E : Ends} {R t : TS}
theorem seq_go {m : SS} (hc : c.G = G) (I : Ok c F H σ ρ) (e : m ρ = some (.nx, ρ')) (k : ∀ σ1 H1 F1, Ext F F1 → Ok c F1 H1 σ1 ρ' → R E σ1 H1) : tSeq (vsQ G m) R E σ H := ⟨c, hc, F, ρ, I, .nx, ρ', e, k⟩
theorem if_no {m : SB} (hc : c.G = G) (I : Ok c F H σ ρ) (e : m ρ = some (false, ρ')) (k : ∀ H1 F1, Ext F F1 → Ok c F1 H1 σ ρ' → R E σ H1) : tSeq (tIfS (vbQ G m) t tNext) R E σ H := ⟨c, hc, F, ρ, I, false, ρ', e, fun H1 F1 x I1 => iteF (k H1 F1 x I1)⟩
theorem if_yes {m : SB} (hc : c.G = G) (I : Ok c F H σ ρ) (e : m ρ = some (true, ρ')) (k : ∀ H1 F1, Ext F F1 → Ok c F1 H1 σ ρ' → t { E with nx := R E } σ H1) : tSeq (tIfS (vbQ G m) t tNext) R E σ H := ⟨c, hc, F, ρ, I, true, ρ', e, fun H1 F1 x I1 => iteT (k H1 F1 x I1)⟩
end
theorem sB_of {s : SE} {ρ ρ1 : Rho} {b : Bool} (h : s ρ = some (.bl b, ρ1)) : sB s ρ = some (b, ρ1) := by
  unfold sB; rw [h]
theorem s1_of {g : G1} {s : SE} {ρ ρ1 : Rho} {d e : D} (h : s ρ = some (d, ρ1)) (hg : g d = some e) : s1 g s ρ = some (e, ρ1) := by
  unfold s1; simp only [h, hg]
theorem s2_of {g : G2} {a b : SE} {ρ ρ1 ρ2 : Rho} {x y d : D} (h : a ρ = some (x, ρ1)) (h2 : b ρ1 = some (y, ρ2)) (hg : g x y = some d) : s2 g a b ρ = some (d, ρ2) := by
  unfold s2; simp only [h, h2, hg]
theorem sL_of {g : GL} {a : SA} {ρ ρ1 : Rho} {xs : List D} {d : D} (h : a ρ = some (xs, ρ1)) (hg : g xs = some d) : sL g a ρ = some (d, ρ1) := by
  unfold sL; simp only [h, hg]
theorem sU_of {s : SE} {ρ ρ1 : Rho} {d : D} (h : s ρ = some (d, ρ1)) : sU s ρ = some (unD d, ρ1) := by
  unfold sU; simp only [h]
theorem aC_one {s : SE} {ρ ρ1 : Rho} {d : D} (h : s ρ = some (d, ρ1)) : aC s aN ρ = some ([d], ρ1) := by
  unfold aC; simp only [h, aN]
theorem bOr_f {a b : SB} {ρ ρ1 : Rho} {r : Option (Bool × Rho)} (h : a ρ = some (false, ρ1)) (h2 : b ρ1 = r) : bOr a b ρ = r := by unfold bOr; rw [h]; exact h2
theorem kRet_of {e : SE} {ρ ρ1 : Rho} {d : D} (h : e ρ = some (d, ρ1)) : kRet e ρ = some (.rt d, ρ1) := by unfold kRet; rw [h]
theorem xTry_xc {i j : Nat} {ks : List Nat} {s : EX} {ρ ρ1 : Rho} {k : Nat} {d : D} (h : s ρ = some (.xc k d ρ1)) (hk : k ∈ ks) : xTry i j ks s ρ = some (.nx, (ρ1.set j (.val (.exc k d))).set i .no) := by
  unfold xTry; simp only [h]; rw [if_pos hk]
def flg : Nat → List D
  | 3 => [.bl true, .bl false, .bl false, .bl false, .bl false]
  | 4 => [.bl false, .bl true, .bl false, .bl false, .bl false]
  | 6 => [.bl false, .bl false, .bl true, .bl false, .bl false]
  | 5 => [.bl false, .bl false, .bl false, .bl true, .bl false]
  | _ => [.bl false, .bl false, .bl false, .bl false, .bl true]
theorem flags {k kd : Nat} (hk : (k, kd) ∈ Kinds13) (a0 a1 a2 : Sl) (d : D) :
    law_refused_hb_3 [a0, a1, a2, .val (.int (kd : Nat)), .val (.exc k d), .no, .no, .no] = some (.nx, [a0, a1, a2, .val (.int (kd : Nat)), .val (.exc k d), .no, .val (.lst ((flg k).take 3)), .no]) ∧ law_refused_hb_4 [a0, a1, a2, .val (.int (kd : Nat)), .val (.exc k d), .no, .val (.lst ((flg k).take 3)), .no] = some (.nx, [a0, a1, a2, .val (.int (kd : Nat)), .val (.exc k d), .no, .val (.lst (flg k)), .no]) := by
  simp only [Kinds13, List.mem_cons, List.not_mem_nil, or_false, Prod.mk.injEq] at hk
  rcases hk with ⟨rfl, rfl⟩ | ⟨rfl, rfl⟩ | ⟨rfl, rfl⟩ | ⟨rfl, rfl⟩ | ⟨rfl, rfl⟩ <;> exact ⟨by kernel_rfl, by kernel_rfl⟩
theorem five {k kd : Nat} (hk : (k, kd) ∈ Kinds13) (b0 b1 b2 b4 : D) : (sB (s2 gNe (sComp (iR (aC (sK (.int 5)) aN)) (.nm 7) (sB (sU (s2 gIx (sU (sV 6)) (sU (sV 7))))) (sU (sV 7))) (sL VS.gLst (aC (sU (sV 3)) aN)))) [.val b0, .val b1, .val b2, .val (.int (kd : Nat)), .val b4, .no, .val (.lst (flg k)), .no] = some (false, [.val b0, .val b1, .val b2, .val (.int (kd : Nat)), .val b4, .no, .val (.lst (flg k)), .no]) := by
  simp only [Kinds13, List.mem_cons, List.not_mem_nil, or_false, Prod.mk.injEq] at hk
  rcases hk with ⟨rfl, rfl⟩ | ⟨rfl, rfl⟩ | ⟨rfl, rfl⟩ | ⟨rfl, rfl⟩ | ⟨rfl, rfl⟩ <;> kernel_rfl
theorem atI_nat {α : Type} (xs : List α) (i : Nat) : L2.atI xs (i : Int) = xs[i]? := by
  unfold L2.atI L2.ixN
  rw [if_pos (by omega)]
  by_cases h : (i : Int) < xs.length
  · rw [if_pos h]; rfl
  · rw [if_neg h, List.getElem?_eq_none (by omega)]; rfl
theorem texts {k pl : Nat} {ds : List D} {d : D} {t : Str} (hkk : k ∈ xvs) (hd : ds[pl]? = some d) (h : shD oNo (unD d) = some t) (h1 : t.length ≤ 4000) (h2 : dpD (unD d) ≤ 10) (a0 a3 a5 a6 a7 : Sl) :
    (sL (gShow oNo) (aC (sU (s1 (gExV xvs) (sU (sV 4)))) aN)) [a0, .val (.lst ds), .val (.int (pl : Nat)), a3, .val (.exc k d), a5, a6, a7] = some (.str t, [a0, .val (.lst ds), .val (.int (pl : Nat)), a3, .val (.exc k d), a5, a6, a7]) ∧
    (sL (gShow oNo) (aC (sU (s2 gIx (sU (sV 1)) (sU (sV 2)))) aN)) [a0, .val (.lst ds), .val (.int (pl : Nat)), a3, .val (.exc k d), a5, a6, a7] = some (.str t, [a0, .val (.lst ds), .val (.int (pl : Nat)), a3, .val (.exc k d), a5, a6, a7]) := by
  have g1 : gExV xvs (.exc k d) = some d := if_pos hkk
  have g2 : gIx (.lst ds) (.int (pl : Nat)) = some d := by
    show L2.atI ds (pl : Int) = _
    rw [atI_nat, hd]
  exact ⟨sL_of (aC_one (sU_of (s1_of (sU_of (d := .exc k d) rfl) g1))) (show_of h h1 h2), sL_of (aC_one (sU_of (s2_of (sU_of (d := .lst ds) rfl) (sU_of (d := .int (pl : Nat)) rfl) g2))) (show_of h h1 h2)⟩
theorem k_in {k kd : Nat} (hk : (k, kd) ∈ Kinds13) : k ∈ xvs ∧ k ∈ ct_AgedReadsError := by
  simp only [Kinds13, List.mem_cons, List.not_mem_nil, or_false, Prod.mk.injEq] at hk
  rcases hk with ⟨rfl, rfl⟩ | ⟨rfl, rfl⟩ | ⟨rfl, rfl⟩ | ⟨rfl, rfl⟩ | ⟨rfl, rfl⟩ <;> decide
theorem refused_ok {G : Gx} : ∀ us H Q E, spRef G us H Q E → law_refused_T G { nx := fun _ H1 => Q .non H1, rt := Q } (L2.start N_law_refused us) H := by
  intro us H Q E ⟨F, vg, w, pl, kd, ds, d, k, e, tb, eu, rg, hd, hx, hk, O, br⟩
  subst eu
  obtain ⟨kx, kc⟩ := k_in hk
  obtain ⟨t, ht, h1, h2⟩ := O
  have I0 : Ok ⟨G, F, H, []⟩ F H (L2.start N_law_refused [.int (w : Nat), vg, .int (pl : Nat), .int (kd : Nat)]) [.val (.int (w : Nat)), .val (.lst ds), .val (.int (pl : Nat)), .val (.int (kd : Nat)), .no, .no, .no, .no] :=
    ok_start e tb (.vals (ds := [.int (w : Nat), .lst ds, .int (pl : Nat), .int (kd : Nat)]) (.cons (.int _) (.cons rg (.cons (.int _) (.cons (.int _) .nil))))) 4
  refine seq_go rfl I0 (show law_refused_hb_1 _ = some (.nx, [.val (.int (w : Nat)), .val (.lst ds), .val (.int (pl : Nat)), .val (.int (kd : Nat)), .val .non, .no, .no, .no]) from rfl) fun σ1 H1 F1 x1 I1 => ?_
  have e2 : law_refused_hb_2 [.val (.int (w : Nat)), .val (.lst ds), .val (.int (pl : Nat)), .val (.int (kd : Nat)), .val .non, .no, .no, .no] = some (.nx, [.val (.int (w : Nat)), .val (.lst ds), .val (.int (pl : Nat)), .val (.int (kd : Nat)), .val (.exc k d), .no, .no, .no]) := by
    refine xTry_xc (ρ1 := [.val (.int (w : Nat)), .val (.lst ds), .val (.int (pl : Nat)), .val (.int (kd : Nat)), .val .non, .no, .no, .no]) ?_ kc
    have a : (aC (sV 0) (aC (sV 1) aN)) [.val (.int (w : Nat)), .val (.lst ds), .val (.int (pl : Nat)), .val (.int (kd : Nat)), .val .non, .no, .no, .no] = some ([.int (w : Nat), .lst ds], [.val (.int (w : Nat)), .val (.lst ds), .val (.int (pl : Nat)), .val (.int (kd : Nat)), .val .non, .no, .no, .no]) := rfl
    unfold sCallX
    simp only [a, List.length_cons, List.length_nil, Nat.zero_add, Nat.reduceAdd, if_true, List.map_cons, List.map_nil, hx]
  refine seq_go rfl I1 e2 fun σ2 H2 F2 x2 I2 => ?_
  obtain ⟨e3, e4⟩ := flags hk (.val (.int (w : Nat))) (.val (.lst ds)) (.val (.int (pl : Nat))) d
  refine seq_go rfl I2 e3 fun σ3 H3 F3 x3 I3 => ?_
  refine seq_go rfl I3 e4 fun σ4 H4 F4 x4 I4 => ?_
  obtain ⟨t1, t2⟩ := texts kx hd ht h1 h2 (.val (.int (w : Nat))) (.val (.int (kd : Nat))) .no (.val (.lst (flg k))) .no
  have e5 : law_refused_hb_5 [.val (.int (w : Nat)), .val (.lst ds), .val (.int (pl : Nat)), .val (.int (kd : Nat)), .val (.exc k d), .no, .val (.lst (flg k)), .no] = some (false, [.val (.int (w : Nat)), .val (.lst ds), .val (.int (pl : Nat)), .val (.int (kd : Nat)), .val (.exc k d), .no, .val (.lst (flg k)), .no]) :=
    bOr_f (five hk _ _ _ _) (sB_of (s2_of t1 t2 (ne_str t)))
  refine if_no rfl I4 e5 fun H5 F5 x5 I5 => ?_
  have g2 : gIx (.lst ds) (.int (pl : Nat)) = some d := by
    show L2.atI ds (pl : Int) = _
    rw [atI_nat, hd]
  have frame : ∀ {F' H' : Hp} {ρ : Rho}, Ok ⟨G, F, H, []⟩ F' H' σ4 ρ → Keep G.T [] F H F' H' := fun {F' H' ρ} I => ⟨I.f0, I.fh, I.fr, I.al, I.n0, fun _ => I.tb⟩
  rcases br with ⟨nl, q⟩ | ⟨p, us, xs, rfl, hp, hgp, nol, lu, O3, q⟩
  · have e8 : law_refused_hb_8 [.val (.int (w : Nat)), .val (.lst ds), .val (.int (pl : Nat)), .val (.int (kd : Nat)), .val (.exc k d), .no, .val (.lst (flg k)), .no] = some (false, [.val (.int (w : Nat)), .val (.lst ds), .val (.int (pl : Nat)), .val (.int (kd : Nat)), .val (.exc k d), .no, .val (.lst (flg k)), .no]) :=
      sB_of (s1_of (sU_of (s2_of (sU_of (d := .lst ds) rfl) (sU_of (d := .int (pl : Nat)) rfl) g2)) nl)
    refine if_no rfl I5 e8 fun H6 F6 x6 I6 => ?_
    exact ⟨_, rfl, F6, _, I6, .rt (.bl true), _, kRet_of (s2_of t1 t2 (eq_str t)), fun v σ' H' F' x I' r => by cases r; exact q H' F' ⟨I'.f0, I'.fh, I'.fr, I'.al, I'.n0, fun _ => I'.tb⟩⟩
  · have isl : gIsTy2 3 (unD (.bth p (.lst xs))) = some (.bl true) := rfl
    have e8 : law_refused_hb_8 [.val (.int (w : Nat)), .val (.lst ds), .val (.int (pl : Nat)), .val (.int (kd : Nat)), .val (.exc k (.bth p (.lst xs))), .no, .val (.lst (flg k)), .no] = some (true, [.val (.int (w : Nat)), .val (.lst ds), .val (.int (pl : Nat)), .val (.int (kd : Nat)), .val (.exc k (.bth p (.lst xs))), .no, .val (.lst (flg k)), .no]) :=
      sB_of (s1_of (sU_of (s2_of (sU_of (d := .lst ds) rfl) (sU_of (d := .int (pl : Nat)) rfl) g2)) isl)
    refine if_yes rfl I5 e8 fun H6 F6 x6 I6 => ?_
    have e7 : law_refused_hb_7 [.val (.int (w : Nat)), .val (.lst ds), .val (.int (pl : Nat)), .val (.int (kd : Nat)), .val (.exc k (.bth p (.lst xs))), .no, .val (.lst (flg k)), .no] = some (.bth p (.lst xs), [.val (.int (w : Nat)), .val (.lst ds), .val (.int (pl : Nat)), .val (.int (kd : Nat)), .val (.exc k (.bth p (.lst xs))), .no, .val (.lst (flg k)), .no]) :=
      s2_of (sU_of (d := .lst ds) rfl) (sU_of (d := .int (pl : Nat)) rfl) g2
    refine ⟨_, rfl, F6, _, I6, _, _, e7, fun v H7 F7 x7 I7 r7 => ?_⟩
    have hp7 : F7 p = some (.lst us) := I7.f0 _ _ hp
    cases r7 with
    | bth r7 =>
      refine ⟨p, us, rfl, I7.fh _ _ hp7, Nat.lt_of_le_of_lt lu (by rw [sizeLine_eq]; decide), ?_⟩
      have ru : Reps G F7 us xs := by
        cases r7 with
        | lst g k7 => rw [hp7] at g; cases g; exact k7
      have r8 : Rep G (upd F7 p (.lst (us ++ [.str "more"]))) (.ref p) (.lst (xs ++ [.str "more"])) := .lst upd_same ((Reps.rm_upd hp7 ru nol).append (.one (.str _)))
      obtain ⟨t', ht', h1', h2'⟩ := O3
      -- the given list, its place, the exception
      obtain ⟨ov1, s1a, s1b⟩ := I7.sl 1 _ rfl
      obtain ⟨ov4, s4a, s4b⟩ := I7.sl 4 _ rfl
      obtain ⟨ov2, s2a, s2b⟩ := I7.sl 2 _ rfl
      cases ov1 with
      | none => exact s1b.elim
      | some v1 =>
        have s1b : Rep G F7 v1 (.lst ds) := s1b
        cases s1b with
        | @lst a gs _ hF1 rgs =>
          have ne : a ≠ p := fun z => by
            subst z
            rw [hp7] at hF1
            cases hF1
            exact hgp F7 us rgs ru
          obtain ⟨vp, gp, rp⟩ := rgs.get hd
          have vp_eq : vp = .ref p := by cases rp; rfl
          subst vp_eq
          have rb : Rep G (upd F7 p (.lst (us ++ [.str "more"]))) (.ref p) (.bth p (.lst (xs ++ [.str "more"]))) := .bth r8
          obtain ⟨hl, he⟩ := List.getElem?_eq_some_iff.mp gp
          have gset : gs.set pl (.ref p) = gs := by rw [← he]; exact List.set_getElem_self hl
          have rd2 : Reps G (upd F7 p (.lst (us ++ [.str "more"]))) gs ((gs.map anyV).set pl (.bth p (.lst (xs ++ [.str "more"])))) := by
            have z := Reps.set rb pl (Reps.any (F' := upd F7 p (.lst (us ++ [.str "more"]))) rgs)
            rw [gset] at z
            exact z
          have hd2 : ((gs.map anyV).set pl (.bth p (.lst (xs ++ [.str "more"]))))[pl]? = some (.bth p (.lst (xs ++ [.str "more"]))) := List.getElem?_set_self (by rw [List.length_map]; exact hl)
          cases ov2 with
          | none => exact s2b.elim
          | some v2 =>
            have s2b : Rep G F7 v2 (.int (pl : Nat)) := s2b
            cases s2b
            cases ov4 with
            | none => exact s4b.elim
            | some v4 =>
              have s4b : Rep G F7 v4 (.exc k (.bth p (.lst xs))) := s4b
              cases s4b with
              | @exc a4 dx4 _ v5 _ q1 q2 r5 =>
                have v5_eq : v5 = .ref p := by cases r5; rfl
                subst v5_eq
                have n4 : a4 ≠ p := fun z => by subst z; rw [hp7] at q1; cases q1
                have n5 : dx4 ≠ p := fun z => by subst z; rw [hp7] at q2; cases q2
                have J := I7.chgd (ws := us ++ [.str "more"]) (ρ' := [.no, .val (.lst ((gs.map anyV).set pl (.bth p (.lst (xs ++ [.str "more"]))))), .val (.int (pl : Nat)), .no, .val (.exc k (.bth p (.lst (xs ++ [.str "more"])))), .no, .no, .no]) hp7 rfl fun j s' e => match j, e with
                  | 0, e => by cases e; exact .inl rfl
                  | 1, e => by cases e; exact .inr ⟨_, _, rfl, s1a, .lst (by rw [upd_ne ne]; exact hF1) rd2⟩
                  | 2, e => by cases e; exact .inr ⟨_, _, rfl, s2a, .int _⟩
                  | 3, e => by cases e; exact .inl rfl
                  | 4, e => by cases e; exact .inr ⟨_, _, rfl, s4a, .exc (by rw [upd_ne n4]; exact q1) (by rw [upd_ne n5]; exact q2) rb⟩
                  | 5, e => by cases e; exact .inl rfl
                  | 6, e => by cases e; exact .inl rfl
                  | 7, e => by cases e; exact .inl rfl
                  | i + 8, e => by simp at e
                obtain ⟨w1, w2⟩ := texts kx hd2 ht' h1' h2' .no .no .no .no .no
                have fr7 := frame I7
                exact ⟨_, rfl, _, _, J, .rt (.bl true), _, kRet_of (s2_of w1 w2 (eq_str t')), fun v σ' H' F' x I' r => by
                  cases r
                  refine q H' (fun b o hb nb nt => I'.fr b o (by show upd H7 p _ b = _; rw [upd_ne nb]; exact fr7.h b o hb List.not_mem_nil nt) List.not_mem_nil nt) (fun b o hb => ?_) I'.tb.t
                  by_cases z : b = p
                  · subst z
                    exact I'.al b _ (by show upd H7 b _ b = _; exact upd_same)
                  · obtain ⟨o2, e2⟩ := fr7.a b o hb
                    exact I'.al b o2 (by show upd H7 p _ b = _; rw [upd_ne z]; exact e2)⟩
end Toy.R13

set_option Elab.async false
set_option linter.all false
set_option maxRecDepth 100000
set_option maxHeartbeats 1000000
namespace Toy.R13
open PySem PySem.Spec PyProof.Rows L2 VS
abbrev madeD : D := .ins 1 [.tup [.ins 0 [.str "a", .int 4, .int 1, .tup []], .ins 0 [.str "b", .int 6, .int 0, .tup [.str "a"]], .ins 0 [.str "c", .int 3, .int 2, .tup [.str "b", .str "c"]]]]
abbrev netD : D := .tup [.tup [.str "a", .int 4, .int 1, .tup []], .tup [.str "b", .int 6, .int 0, .tup [.str "a"]], .tup [.str "c", .int 3, .int 2, .tup [.str "b", .str "c"]]]
abbrev pathD : D := .lst [.str "a", .str "b", .str "c", .str "c"]
def rightD (w : Nat) (ph : D) (r : Int) : List D := match w with
  | 0 => [madeD, ph, .str "b", .int r]
  | 1 => [madeD, ph, .str "c", .str "b", .int r]
  | 2 => [madeD, ph, pathD, .int r]
  | 3 => [madeD, ph, pathD, .int r]
  | _ => [madeD, ph, pathD]
def kindsD (w : Nat) : List Nat := match w with
  | 0 => [0, 1, 2, 4]
  | 1 => [0, 1, 2, 2, 4]
  | 2 => [0, 1, 3, 4]
  | 3 => [0, 1, 3, 4]
  | _ => [0, 1, 3]
def kiD (w : Nat) : List D := (kindsD w).map fun k => .int (k : Nat)
def told (p : Addr) : D → D
  | .lst ys => .bth p (.lst ys)
  | d => d
abbrev slots0 (w : Nat) (ph : D) (r : Int) : Rho := [.val (.int (w : Nat)), .val (.lst (rightD w ph r)), .val netD, .val ph, .val pathD, .val (.lst (kiD w))]
structure Pre (w pl : Nat) (ph : D) (r : Int) (R' : List D) (d : D) : Prop where
  len : R'.length = (rightD w ph r).length
  pre : ∀ j, j < pl → R'[j]? = (rightD w ph r)[j]?
  at_ : R'[pl]? = some d
structure OddOk (w pl kd : Nat) (ph : D) (r : Int) (d : D) : Prop where
  xc : ∀ (p : Addr) (R' : List D), Pre w pl ph r R' (told p d) → ∃ k, mx_law_called [.val (.int (w : Nat)), .val (.lst R')] = some (.xc k (told p d)) ∧ (k, kd) ∈ Kinds13
  nb : unD d = d
  op : OptS d
  nl : (∀ ys, d ≠ .lst ys) → gIsTy2 3 d = some (.bl false)
  li : ∀ ys, d = .lst ys → noLs ys.length ys = true ∧ ys.length ≤ 1000 ∧ OptS (.lst (ys ++ [.str "more"])) ∧ (∀ l ∈ rls (slots0 w ph r), apt l ys = true) ∧ ∀ p R', Pre w pl ph r R' (told p d) → apt R' ys = true
structure WayOk (w : Nat) (ph : D) (r : Int) (od : Nat → List D) : Prop where
  kinds : ∃ o, m_law_kinds [.val (.int (w : Nat))] = some (.lst (kiD w), o)
  odds : ∀ kd, kd ∈ kindsD w → (∃ o, m_law_odd [.val (.int (kd : Nat)), .val netD, .val ph, .val pathD] = some (.lst (od kd), o)) ∧ (od kd).length ≤ 1000
  ok : ∀ pl kd, (kindsD w)[pl]? = some kd → ∀ d ∈ od kd, OddOk w pl kd ph r d
  pn : (slots0 w ph r).all slP = true
  later : ∀ pl kd, (kindsD w)[pl]? = some kd → ∀ (b : Sl) (R' : List D), R'.length = (rightD w ph r).length →
    ∃ R'' s, law_way_right_hb_9 (slots0 w ph r ++ [.val (.int (pl : Nat)), b, .own R', .no]) = some (.nx, slots0 w ph r ++ [.val (.int (pl : Nat)), b, .own R'', s]) ∧ R''.length = R'.length ∧ ∀ j, j ≤ pl → R''[j]? = R'[j]?
def spWay (G : Gx) (Ph : D → Prop) : Sp := fun vs H Q _ => ∃ (F : Hp) (v1 v2 v3 v4 : V) (w : Nat) (ph : D) (r : Int), Ext F H ∧ TbOk G.T F H ∧ vs = [.int (w : Nat), v1, v2, v3, v4] ∧ w < 7 ∧ Ph ph ∧ Reps G F [v1, v2, v3, v4] [.lst (rightD w ph r), netD, ph, pathD] ∧
  ∀ H', (∀ q o, H q = some o → (∀ ps, o ≠ .tbl ps) → H' q = some o) → (∀ q o, H q = some o → ∃ o', H' q = some o') → LamX.Tabs G.T H' → Q (.bl true) H'
theorem told_lst {p : Addr} {d : D} (h : ∀ ys, d ≠ .lst ys) : told p d = d := by
  cases d with
  | lst ys => exact absurd rfl (h ys)
  | _ => rfl
theorem told_un {p : Addr} {d : D} (h : unD d = d) : unD (told p d) = d := by
  cases d with
  | lst ys => rfl
  | _ => exact h
theorem call_refused {G : Gx} {c : VS.Ctx} {F H : Hp} {σ : L2.St} {ρ ρ' : Rho} {m : SA} {w pl kd : Nat} {ph : D} {r : Int} {R' : List D} {d : D} {p : Addr} {K : VK} (hc : c.G = G) (I : Ok c F H σ ρ)
    (e : m ρ = some ([.int (w : Nat), .lst R', .int (pl : Nat), .int (kd : Nat)], ρ')) (P : Pre w pl ph r R' (told p d)) (O : OddOk w pl kd ph r d) (hp : ∀ ys, d = .lst ys → ∃ us, F p = some (.lst us) ∧ Reps G F us ys)
    (k : ∀ F6 H6 H', Ext F F6 → Ok c F6 H6 σ ρ' → (∀ q o, H6 q = some o → ¬ (q = p ∧ ∃ ys, d = .lst ys) → (∀ ps, o ≠ .tbl ps) → H' q = some o) → (∀ q o, H6 q = some o → ∃ o', H' q = some o') → LamX.Tabs G.T H' → K (.bl true) H') :
    L2.tCall (spRef G) [] E0 (vaQ G m) σ H K := by
  refine ⟨c, hc, F, ρ, I, _, ρ', e, fun vs H6 F6 x6 I6 r6 => ?_⟩
  rw [hc] at r6
  rw [List.append_nil]
  cases r6 with
  | cons q0 r6 =>
  cases q0
  cases r6 with
  | @cons vg _ _ _ rg r6 =>
  cases r6 with
  | cons q2 r6 =>
  cases q2
  cases r6 with
  | cons q3 r6 =>
  cases q3
  cases r6
  obtain ⟨kk, h1, h2⟩ := O.xc p R' P
  refine ⟨F6, vg, w, pl, kd, R', told p d, kk, I6.fh, by rw [← hc]; exact I6.tb, rfl, rg, P.at_, h1, h2, by rw [told_un O.nb]; exact O.op, ?_⟩
  by_cases z : ∃ ys, d = .lst ys
  · obtain ⟨ys, rfl⟩ := z
    obtain ⟨us, f1, f2⟩ := hp ys rfl
    obtain ⟨a1, a2, a3, a4, a5⟩ := O.li ys rfl
    have hl : us.length = ys.length := f2.length
    refine .inr ⟨p, us, ys, rfl, x6 _ _ f1, apt_no (a5 p R' P), by rw [hl]; exact a1, by rw [hl]; exact a2, a3, fun H' g1 g2 g3 => ?_⟩
    exact k F6 H6 H' x6 I6 (fun q o y n t => g1 q o y (fun z => n ⟨z, ys, rfl⟩) t) g2 g3
  · have z' : ∀ ys, d ≠ .lst ys := fun ys y => z ⟨ys, y⟩
    refine .inl ⟨by rw [told_un O.nb]; exact O.nl z', fun H' F' kp => k F6 H6 H' x6 I6 (fun q o y _ t => kp.h q o y List.not_mem_nil t) kp.a (kp.t (by rw [← hc]; exact I6.tb)).t⟩
theorem lstss_set {l : List D} {e : D} : ∀ {xs : List D} {i : Nat}, l ∈ lstss (xs.set i e) → l ∈ lstss xs ∨ l ∈ lsts e
  | [], _, h => .inl h
  | x :: xs, 0, h => by
    rcases List.mem_append.mp (show l ∈ lsts e ++ lstss xs from h) with h | h
    · exact .inr h
    · exact .inl (List.mem_append_right _ h)
  | x :: xs, i + 1, h => by
    rcases List.mem_append.mp (show l ∈ lsts x ++ lstss (xs.set i e) from h) with h | h
    · exact .inl (List.mem_append_left _ h)
    · rcases lstss_set h with h | h
      · exact .inl (List.mem_append_right _ h)
      · exact .inr h
theorem plnDs_set {e : D} (he : plnD e = true) : ∀ {xs : List D} {i : Nat}, plnDs xs = true → plnDs (xs.set i e) = true
  | [], _, h => h
  | x :: xs, 0, h => by
    simp only [List.set_cons_zero, plnDs, Bool.and_eq_true] at h ⊢
    exact ⟨he, h.2⟩
  | x :: xs, i + 1, h => by
    simp only [List.set_cons_succ, plnDs, Bool.and_eq_true] at h ⊢
    exact ⟨h.1, plnDs_set he h.2⟩
theorem anyV_pln (v : V) : plnD (anyV v) = true := by cases v <;> rfl
theorem anyV_lsts (v : V) : lsts (anyV v) = [] := by cases v <;> rfl
theorem rls_app : ∀ (a b : Rho), rls (a ++ b) = rls a ++ rls b
  | [], _ => rfl
  | s :: a, b => by
    show sls s ++ rls (a ++ b) = _
    rw [rls_app a b]
    show _ = (sls s ++ rls a) ++ rls b
    rw [List.append_assoc]
def Inv13 (G : Gx) (H : Hp) (w : Nat) (ph : D) (r : Int) (σ : L2.St) (H' : Hp) (ρ : Rho) : Prop := ∃ F0 Fm, Ok ⟨G, F0, H, []⟩ Fm H' σ ρ ∧ ∀ q us, F0 q = some (.lst us) → ∃ ds, ds ∈ rls (slots0 w ph r) ∧ Reps G Fm us ds
theorem is_new {G : Gx} {H F0 Fm F H' : Hp} {σ : L2.St} {ρ : Rho} {L : List (List D)} {p : Addr} {us : List V} {ys : List D} (I : Ok ⟨G, F0, H, []⟩ F H' σ ρ) (x : Ext Fm F) (ft : ∀ q us, F0 q = some (.lst us) → ∃ ds, ds ∈ L ∧ Reps G Fm us ds) (hp : F p = some (.lst us)) (rp : Reps G F us ys) (ha : ∀ l ∈ L, apt l ys = true) : H p = none := by
  cases hh : H p with
  | none => rfl
  | some o =>
    cases h0 : F0 p with
    | none =>
      have := I.n0 p o hh h0
      rw [hp] at this
      cases this
    | some o' =>
      have e := I.f0 p o' h0
      rw [hp] at e
      cases e
      obtain ⟨ds, g1, g2⟩ := ft p us h0
      exact (apt_no (ha ds g1) F us (g2.ext x) rp).elim
theorem back13 {G : Gx} {H F0 F H6 H' : Hp} {σ : L2.St} {ρ : Rho} {w : Nat} {ph : D} {r : Int} (ch : Addr → Prop) (I : Ok ⟨G, F0, H, []⟩ F H6 σ ρ) (hs : ρ.all slP = true) (hl : ∀ l ∈ rls ρ, l ∈ rls (slots0 w ph r))
    (ow : ∀ (i : Nat) xs q, ρ[i]? = some (.own xs) → σ[i]? = some (some (.ref q)) → H q = none)
    (kp : ∀ q o, H6 q = some o → ¬ ch q → (∀ ps, o ≠ .tbl ps) → H' q = some o) (al : ∀ q o, H6 q = some o → ∃ o', H' q = some o') (tb : LamX.Tabs G.T H')
    (nw : ∀ q, ch q → H q = none) (hch : ∀ q, ch q → ∃ us ys, F q = some (.lst us) ∧ Reps G F us ys ∧ ∀ l ∈ rls (slots0 w ph r), apt l ys = true) : Inv13 G H w ph r σ H' ρ := by
  obtain ⟨F0', Fm, x, J, ft⟩ := I.refoot (H' := H') (K0 := H) ch hs (fun q o e t => kp q o (I.fr q o e List.not_mem_nil t) (fun z => by rw [nw q z] at e; cases e) t)
    (fun q o e => let ⟨o', e'⟩ := I.al q o e; al q o' e') ow kp tb (fun q z => let ⟨us, ys, h1, h2, h3⟩ := hch q z; ⟨us, ys, h1, h2, fun l hl' => h3 l (hl l hl')⟩)
  exact ⟨F0', Fm, J, fun q us e => let ⟨ds, h1, h2⟩ := ft q us e; ⟨ds, hl ds h1, h2⟩⟩
end Toy.R13

set_option Elab.async false
set_option linter.all false
set_option maxRecDepth 100000
set_option maxHeartbeats 1000000
namespace Toy.R13
open PySem PySem.Spec PyProof.Rows L2 VS
theorem aC_of {s : SE} {r : SA} {ρ ρ1 ρ2 : Rho} {d : D} {ds : List D} (h : s ρ = some (d, ρ1)) (h2 : r ρ1 = some (ds, ρ2)) : aC s r ρ = some (d :: ds, ρ2) := by
  unfold aC; simp only [h, h2]
theorem sCall_of {n : Nat} {m : Mir} {a : SA} {ρ ρ1 : Rho} {xs o : List D} {d : D} (h : a ρ = some (xs, ρ1)) (hn : xs.length = n) (hm : m (xs.map .val) = some (d, o)) : sCall n m a ρ = some (d, ρ1) := by
  unfold sCall; simp only [h, hn, if_true, hm]
theorem kPut_of {i n : Nat} {j : Int} {k e : SE} {ρ ρ1 ρ2 ρ3 : Rho} {d : D} {ys xs : List D} (h : e ρ = some (d, ρ1)) (h1 : conM ρ1 i = some ys) (h2 : k ρ1 = some (.int j, ρ2)) (h3 : conM ρ2 i = some xs) (h4 : ixN xs.length j = some n) (h5 : setM ρ2 i (xs.set n d) = ρ3) : kPut i k e ρ = some (.nx, ρ3) := by
  unfold kPut; simp only [h, h1, h2, h3, h4, h5]
theorem len13 (w : Nat) (ph : D) (r : Int) : (rightD w ph r).length = (kindsD w).length := by
  match w with
  | 0 => rfl
  | 1 => rfl
  | 2 => rfl
  | 3 => rfl
  | w + 4 => rfl
theorem ixN_nat {n i : Nat} (h : i < n) : ixN n (i : Int) = some i := by
  unfold L2.ixN
  rw [if_pos (by omega), if_pos (by omega)]
  rfl
section
variable {w pl kd at_ : Nat} {ph : D} {r : Int} {od : Nat → List D} {d : D}
theorem ki_at (hk : (kindsD w)[pl]? = some kd) : gIx (.lst (kiD w)) (.int (pl : Nat)) = some (.int (kd : Nat)) := by
  show L2.atI (kiD w) (pl : Int) = _
  rw [atI_nat]
  unfold kiD
  rw [List.getElem?_map, hk]
  rfl
theorem odd_at (W : WayOk w ph r od) (hk : (kindsD w)[pl]? = some kd) (hd : (od kd)[at_]? = some d) (s8 s9 : Sl) :
    (s2 gIx (sCall 4 m_law_odd (aC (s2 gIx (sV 5) (sV 6)) (aC (sV 2) (aC (sV 3) (aC (sV 4) aN))))) (sV 7)) (slots0 w ph r ++ [.val (.int (pl : Nat)), .val (.int (at_ : Nat)), s8, s9]) = some (d, slots0 w ph r ++ [.val (.int (pl : Nat)), .val (.int (at_ : Nat)), s8, s9]) := by
  obtain ⟨o, ho⟩ := (W.odds kd (List.mem_of_getElem? hk)).1
  refine s2_of (sCall_of (aC_of (s2_of rfl rfl (ki_at hk)) rfl) rfl ho) rfl ?_
  show L2.atI (od kd) (at_ : Int) = _
  rw [atI_nat, hd]
theorem put_at (W : WayOk w ph r od) (hk : (kindsD w)[pl]? = some kd) (hd : (od kd)[at_]? = some d) {xs : List D} (hl : xs.length = (rightD w ph r).length) (s9 : Sl) :
    kPut 8 (sV 6) (s2 gIx (sCall 4 m_law_odd (aC (s2 gIx (sV 5) (sV 6)) (aC (sV 2) (aC (sV 3) (aC (sV 4) aN))))) (sV 7)) (slots0 w ph r ++ [.val (.int (pl : Nat)), .val (.int (at_ : Nat)), .own xs, s9]) = some (.nx, slots0 w ph r ++ [.val (.int (pl : Nat)), .val (.int (at_ : Nat)), .own (xs.set pl d), s9]) :=
  kPut_of (odd_at W hk hd _ _) rfl rfl rfl (ixN_nat (by rw [hl, len13]; exact (List.getElem?_eq_some_iff.mp hk).1)) rfl
theorem pl_lt (hk : (kindsD w)[pl]? = some kd) : pl < (rightD w ph r).length := by
  rw [len13]; exact (List.getElem?_eq_some_iff.mp hk).1
theorem pre_set (hk : (kindsD w)[pl]? = some kd) (e : D) : Pre w pl ph r ((rightD w ph r).set pl e) e :=
  ⟨List.length_set, fun j hj => List.getElem?_set_ne (by omega), List.getElem?_set_self (pl_lt hk)⟩
end
def AtP (G : Gx) (F : Hp) (p : Addr) (d : D) (v : V) : Prop := ∀ ys, d = .lst ys → v = .ref p ∧ ∃ us, F p = some (.lst us) ∧ Reps G F us ys
theorem atP_ex {G : Gx} {F : Hp} {d : D} {v : V} (r : Rep G F v d) : ∃ p, AtP G F p d v := by
  cases r with
  | @lst a vs ds h k => exact ⟨a, fun ys e => by cases e; exact ⟨rfl, vs, h, k⟩⟩
  | non => exact ⟨0, fun ys e => by cases e⟩
  | bl b => exact ⟨0, fun ys e => by cases e⟩
  | int i => exact ⟨0, fun ys e => by cases e⟩
  | str x => exact ⟨0, fun ys e => by cases e⟩
  | adr a => exact ⟨0, fun ys e => by cases e⟩
  | scr _ _ => exact ⟨0, fun ys e => by cases e⟩
  | tup _ _ => exact ⟨0, fun ys e => by cases e⟩
  | ins _ _ _ => exact ⟨0, fun ys e => by cases e⟩
  | dct _ _ => exact ⟨0, fun ys e => by cases e⟩
  | exc _ _ _ => exact ⟨0, fun ys e => by cases e⟩
  | bth _ => exact ⟨0, fun ys e => by cases e⟩
theorem AtP.told {G : Gx} {F : Hp} {d : D} {v : V} {p : Addr} (a : AtP G F p d v) (r : Rep G F v d) : Rep G F v (told p d) := by
  by_cases z : ∃ ys, d = .lst ys
  · obtain ⟨ys, rfl⟩ := z
    obtain ⟨rfl, _⟩ := a ys rfl
    exact .bth r
  · rw [told_lst fun ys y => z ⟨ys, y⟩]; exact r
theorem Ok.told8 {G : Gx} {F0 H F H' : Hp} {σ : L2.St} {a0 a1 a2 a3 a4 a5 a6 a7 a9 : Sl} {R' : List D} {pl : Nat} {d : D} (I : Ok ⟨G, F0, H, []⟩ F H' σ [a0, a1, a2, a3, a4, a5, a6, a7, .own R', a9]) (hd : R'[pl]? = some d) :
    ∃ p, (∀ ys, d = .lst ys → ∃ us, F p = some (.lst us) ∧ Reps G F us ys) ∧ Ok ⟨G, F0, H, []⟩ F H' σ [a0, a1, a2, a3, a4, a5, a6, a7, .own (R'.set pl (told p d)), a9] := by
  obtain ⟨ov, h1, h2⟩ := I.sl 8 _ rfl
  cases ov with
  | none => exact h2.elim
  | some v =>
    obtain ⟨q, e, g0, g1, vs, g2, g3⟩ := h2
    obtain ⟨vp, k1, k2⟩ := g3.get hd
    obtain ⟨p, hp⟩ := atP_ex k2
    refine ⟨p, fun ys y => (hp ys y).2, I.conv rfl fun i s' es => ?_⟩
    have same : ∀ {s : Sl}, [a0, a1, a2, a3, a4, a5, a6, a7, .own R', a9][i]? = some s → s' = s → s' = .no ∨ ∃ s, [a0, a1, a2, a3, a4, a5, a6, a7, .own R', a9][i]? = some s ∧ (s'.mut = true → s.mut = true) ∧ ∀ ov, σ[i]? = some ov → SlOk ⟨G, F0, H, []⟩ F H' ov s → SlOk ⟨G, F0, H, []⟩ F H' ov s' := fun {s} x y => by
      subst y
      exact .inr ⟨_, x, id, fun _ _ z => z⟩
    match i, es with
    | 0, es => cases es; exact same rfl rfl
    | 1, es => cases es; exact same rfl rfl
    | 2, es => cases es; exact same rfl rfl
    | 3, es => cases es; exact same rfl rfl
    | 4, es => cases es; exact same rfl rfl
    | 5, es => cases es; exact same rfl rfl
    | 6, es => cases es; exact same rfl rfl
    | 7, es => cases es; exact same rfl rfl
    | 8, es =>
      cases es
      refine .inr ⟨_, rfl, id, fun ov eo _ => ?_⟩
      rw [h1] at eo
      cases eo
      refine ⟨q, e, g0, g1, vs, g2, ?_⟩
      have z := Reps.set (hp.told k2) pl g3
      have gs : vs.set pl vp = vs := by
        obtain ⟨hl, he⟩ := List.getElem?_eq_some_iff.mp k1
        rw [← he]; exact List.set_getElem_self hl
      rw [gs] at z
      exact z
    | 9, es => cases es; exact same rfl rfl
    | i + 10, es => simp at es
theorem Ok.any8 {G : Gx} {F0 H F H' : Hp} {σ : L2.St} {a0 a1 a2 a3 a4 a5 a6 a7 a9 : Sl} {R' : List D} {pl : Nat} {d : D} (I : Ok ⟨G, F0, H, []⟩ F H' σ [a0, a1, a2, a3, a4, a5, a6, a7, .own R', a9]) (hd : R'[pl]? = some d) :
    ∃ v, Ok ⟨G, F0, H, []⟩ F H' σ [a0, a1, a2, a3, a4, a5, a6, a7, .own (R'.set pl (anyV v)), a9] := by
  obtain ⟨ov, h1, h2⟩ := I.sl 8 _ rfl
  cases ov with
  | none => exact h2.elim
  | some v =>
    obtain ⟨q, e, g0, g1, vs, g2, g3⟩ := h2
    obtain ⟨vp, k1, k2⟩ := g3.get hd
    refine ⟨vp, I.conv rfl fun i s' es => ?_⟩
    have same : ∀ {s : Sl}, [a0, a1, a2, a3, a4, a5, a6, a7, .own R', a9][i]? = some s → s' = s → s' = .no ∨ ∃ s, [a0, a1, a2, a3, a4, a5, a6, a7, .own R', a9][i]? = some s ∧ (s'.mut = true → s.mut = true) ∧ ∀ ov, σ[i]? = some ov → SlOk ⟨G, F0, H, []⟩ F H' ov s → SlOk ⟨G, F0, H, []⟩ F H' ov s' := fun {s} x y => by
      subst y
      exact .inr ⟨_, x, id, fun _ _ z => z⟩
    match i, es with
    | 0, es => cases es; exact same rfl rfl
    | 1, es => cases es; exact same rfl rfl
    | 2, es => cases es; exact same rfl rfl
    | 3, es => cases es; exact same rfl rfl
    | 4, es => cases es; exact same rfl rfl
    | 5, es => cases es; exact same rfl rfl
    | 6, es => cases es; exact same rfl rfl
    | 7, es => cases es; exact same rfl rfl
    | 8, es =>
      cases es
      refine .inr ⟨_, rfl, id, fun ov eo _ => ?_⟩
      rw [h1] at eo
      cases eo
      refine ⟨q, e, g0, g1, vs, g2, ?_⟩
      have z := Reps.set (k2.any (F' := F)) pl g3
      have gs : vs.set pl vp = vs := by
        obtain ⟨hl, he⟩ := List.getElem?_eq_some_iff.mp k1
        rw [← he]; exact List.set_getElem_self hl
      rw [gs] at z
      exact z
    | 9, es => cases es; exact same rfl rfl
    | i + 10, es => simp at es
end Toy.R13

set_option Elab.async false
set_option linter.all false
set_option maxRecDepth 100000
set_option maxHeartbeats 1000000
namespace Toy.R13
open PySem PySem.Spec PyProof.Rows L2 VS
abbrev callT (G : Gx) (m : SA) : TT := fun σ H Q => L2.tCall (spRef G) [] E0 (vaQ G m) σ H fun x H1 => ∃ b, x = V.bl b ∧ Q (!b) H1
abbrev turnT (G : Gx) : TS := (tSeq (vsQ G law_way_right_hb_4)
  (tSeq (vsQ G law_way_right_hb_5)
  (tSeq (tIfS (callT G law_way_right_hb_6) (vsQ G law_way_right_hb_7) tNext)
  (tSeq (vsQ G law_way_right_hb_8)
  (tSeq (vsQ G law_way_right_hb_9)
  (tIfS (callT G law_way_right_hb_10) (vsQ G law_way_right_hb_11) tNext))))))
theorem ow_of {c : VS.Ctx} {F H : Hp} {σ : L2.St} {ρ : Rho} (I : Ok c F H σ ρ) : ∀ (i : Nat) xs q, ρ[i]? = some (.own xs) → σ[i]? = some (some (.ref q)) → c.H0 q = none := fun i xs q e h => by
  obtain ⟨ov, h1, h2⟩ := I.sl i _ e
  rw [h] at h1
  cases h1
  obtain ⟨p, z, h0, _⟩ := h2
  cases z
  exact h0
theorem Ok.sub {c : VS.Ctx} {F H : Hp} {σ : L2.St} {ρ ρ' : Rho} (I : Ok c F H σ ρ) (len : ρ'.length = ρ.length) (h : ∀ (i : Nat) s', ρ'[i]? = some s' → s' = .no ∨ ρ[i]? = some s') : Ok c F H σ ρ' :=
  I.conv len fun i s' e => (h i s' e).imp id fun z => ⟨s', z, id, fun _ _ y => y⟩
theorem pln_right {w : Nat} {ph : D} {r : Int} {od : Nat → List D} (W : WayOk w ph r od) : plnDs (rightD w ph r) = true := by
  have h := List.all_eq_true.mp W.pn (.val (.lst (rightD w ph r))) (by simp)
  exact h
theorem sub_right {w : Nat} {ph : D} {r : Int} {l : List D} (h : l ∈ lstss (rightD w ph r)) : l ∈ rls (slots0 w ph r) := by
  show l ∈ sls _ ++ (sls _ ++ _)
  exact List.mem_append_right _ (List.mem_append_left _ (List.mem_cons_of_mem _ h))
section
variable {w pl kd at_ : Nat} {ph : D} {r : Int} {od : Nat → List D} {d : D} {G : Gx} {H F0 Fm F H' : Hp} {σ : L2.St}
theorem slots_any (W : WayOk w ph r od) (v : V) (a6 a7 a9 : Sl) (h6 : slP a6 = true ∧ sls a6 = []) (h7 : slP a7 = true ∧ sls a7 = []) (h9 : slP a9 = true ∧ sls a9 = []) :
    (slots0 w ph r ++ [a6, a7, .own ((rightD w ph r).set pl (anyV v)), a9]).all slP = true ∧ ∀ l ∈ rls (slots0 w ph r ++ [a6, a7, .own ((rightD w ph r).set pl (anyV v)), a9]), l ∈ rls (slots0 w ph r) := by
  constructor
  · rw [List.all_append, W.pn, Bool.true_and]
    show (slP a6 && (slP a7 && (plnDs _ && (slP a9 && true)))) = true
    rw [h6.1, h7.1, h9.1, plnDs_set (anyV_pln v) (pln_right W)]
    rfl
  · intro l hl
    rw [rls_app] at hl
    rcases List.mem_append.mp hl with h | h
    · exact h
    · have h : l ∈ sls a6 ++ (sls a7 ++ (lstss ((rightD w ph r).set pl (anyV v)) ++ (sls a9 ++ []))) := h
      rw [h6.2, h7.2, h9.2] at h
      have h : l ∈ lstss ((rightD w ph r).set pl (anyV v)) := by simpa using h
      rcases lstss_set h with h | h
      · exact sub_right h
      · rw [anyV_lsts] at h; cases h
theorem turn13 (W : WayOk w ph r od) (hk : (kindsD w)[pl]? = some kd) (hd : (od kd)[at_]? = some d) (x : Ext Fm F) (ft : ∀ q us, F0 q = some (.lst us) → ∃ ds, ds ∈ rls (slots0 w ph r) ∧ Reps G Fm us ds)
    (I : Ok ⟨G, F0, H, []⟩ F H' σ (slots0 w ph r ++ [.val (.int (pl : Nat)), .val (.int (at_ : Nat)), .no, .no])) {E : Ends} (k : ∀ σ' H'', Inv13 G H w ph r σ' H'' (slots0 w ph r ++ [.val (.int (pl : Nat)), .no, .no, .no]) → E.nx σ' H'') : turnT G E σ H' := by
  have O := W.ok pl kd hk d (List.mem_of_getElem? hd)
  refine seq_go (c := ⟨G, F0, H, []⟩) rfl I (show law_way_right_hb_4 _ = some (.nx, slots0 w ph r ++ [.val (.int (pl : Nat)), .val (.int (at_ : Nat)), .own (rightD w ph r), .no]) from rfl) fun σ4 H4 F4 x4 I4 => ?_
  refine seq_go rfl I4 (show law_way_right_hb_5 _ = _ from put_at W hk hd rfl _) fun σ5 H5 F5 x5 I5 => ?_
  obtain ⟨p, hp, I5'⟩ := Toy.R13.Ok.told8 I5 (pre_set hk d).at_
  rw [List.set_set] at I5'
  have e6 : law_way_right_hb_6 (slots0 w ph r ++ [.val (.int (pl : Nat)), .val (.int (at_ : Nat)), .own ((rightD w ph r).set pl (told p d)), .no]) = some ([.int (w : Nat), .lst ((rightD w ph r).set pl (told p d)), .int (pl : Nat), .int (kd : Nat)], slots0 w ph r ++ [.val (.int (pl : Nat)), .val (.int (at_ : Nat)), .own ((rightD w ph r).set pl (told p d)), .no]) :=
    aC_of rfl (aC_of rfl (aC_of rfl (aC_of (s2_of rfl rfl (ki_at hk)) rfl)))
  refine call_refused (c := ⟨G, F0, H, []⟩) rfl I5' e6 (pre_set hk _) O hp fun F6 H6 H7 x6 I6 kp al tb => ⟨true, rfl, iteF ?_⟩
  have nw : ∀ q, (q = p ∧ ∃ ys, d = .lst ys) → H q = none := fun q ⟨z, ys, zz⟩ => by
    subst z
    obtain ⟨us, f1, f2⟩ := hp ys zz
    exact is_new I5' (x.trans (x4.trans x5)) ft f1 f2 (O.li ys zz).2.2.2.1
  obtain ⟨v, I6'⟩ := Toy.R13.Ok.any8 I6 (pre_set hk _).at_
  rw [List.set_set] at I6'
  obtain ⟨hs, hl⟩ := slots_any (pl := pl) W v (.val (.int (pl : Nat))) (.val (.int (at_ : Nat))) .no ⟨rfl, rfl⟩ ⟨rfl, rfl⟩ ⟨rfl, rfl⟩
  obtain ⟨F0', Fm', J7, ft7⟩ := back13 (w := w) (ph := ph) (r := r) (fun q => q = p ∧ ∃ ys, d = .lst ys) I6' hs hl (ow_of I6') kp al tb nw (fun q ⟨z, ys, zz⟩ => by
    subst z
    obtain ⟨us, f1, f2⟩ := hp ys zz
    exact ⟨us, ys, x6 _ _ f1, f2.ext x6, (O.li ys zz).2.2.2.1⟩)
  refine seq_go rfl J7 (show law_way_right_hb_8 _ = _ from put_at W hk hd List.length_set _) fun σ8 H8 F8 x8 I8 => ?_
  rw [List.set_set] at I8
  obtain ⟨R2, s9, e9, l9, p9⟩ := W.later pl kd hk (.val (.int (at_ : Nat))) ((rightD w ph r).set pl d) List.length_set
  refine seq_go rfl I8 e9 fun σ9 H9 F9 x9 I9 => ?_
  have P0 := pre_set (w := w) (ph := ph) (r := r) hk d
  have P9 : ∀ e, Pre w pl ph r (R2.set pl e) e := fun e => ⟨by rw [List.length_set, l9, P0.len], fun j hj => by rw [List.getElem?_set_ne (by omega), p9 j (by omega), P0.pre j hj], List.getElem?_set_self (by rw [l9, P0.len]; exact pl_lt hk)⟩
  obtain ⟨p', hp', I9'⟩ := Toy.R13.Ok.told8 I9 (show R2[pl]? = some d by rw [p9 pl (Nat.le_refl _)]; exact P0.at_)
  have e10 : law_way_right_hb_10 (slots0 w ph r ++ [.val (.int (pl : Nat)), .val (.int (at_ : Nat)), .own (R2.set pl (told p' d)), s9]) = some ([.int (w : Nat), .lst (R2.set pl (told p' d)), .int (pl : Nat), .int (kd : Nat)], slots0 w ph r ++ [.val (.int (pl : Nat)), .val (.int (at_ : Nat)), .val (.lst (R2.set pl (told p' d))), s9]) :=
    aC_of rfl (aC_of rfl (aC_of rfl (aC_of (s2_of rfl rfl (ki_at hk)) rfl)))
  refine call_refused (c := ⟨G, F0', H, []⟩) rfl I9' e10 (P9 _) O hp' fun F10 H10 H11 x10 I10 kp2 al2 tb2 => ⟨true, rfl, iteF ?_⟩
  have nw2 : ∀ q, (q = p' ∧ ∃ ys, d = .lst ys) → H q = none := fun q ⟨z, ys, zz⟩ => by
    subst z
    obtain ⟨us, f1, f2⟩ := hp' ys zz
    exact is_new I9' (x8.trans x9) ft7 f1 f2 (O.li ys zz).2.2.2.1
  have I11 : Ok ⟨G, F0', H, []⟩ F10 H10 σ9 (slots0 w ph r ++ [.val (.int (pl : Nat)), .no, .no, .no]) := Toy.R13.Ok.sub I10 rfl fun i s' e => match i, e with
    | 0, e => .inr e
    | 1, e => .inr e
    | 2, e => .inr e
    | 3, e => .inr e
    | 4, e => .inr e
    | 5, e => .inr e
    | 6, e => .inr e
    | 7, e => by cases e; exact .inl rfl
    | 8, e => by cases e; exact .inl rfl
    | 9, e => by cases e; exact .inl rfl
    | i + 10, e => by simp at e
  refine k σ9 H11 (back13 (w := w) (ph := ph) (r := r) (fun q => q = p' ∧ ∃ ys, d = .lst ys) I11 ?_ ?_ (ow_of I11) kp2 al2 tb2 nw2 (fun q ⟨z, ys, zz⟩ => by
    subst z
    obtain ⟨us, f1, f2⟩ := hp' ys zz
    exact ⟨us, ys, x10 _ _ f1, f2.ext x10, (O.li ys zz).2.2.2.1⟩))
  · rw [List.all_append, W.pn]; rfl
  · intro l hl
    rw [rls_app] at hl
    rcases List.mem_append.mp hl with h | h
    · exact h
    · cases h
end
end Toy.R13

set_option Elab.async false
set_option linter.all false
set_option maxRecDepth 100000
set_option maxHeartbeats 1000000
namespace Toy.R13
open PySem PySem.Spec PyProof.Rows L2 VS
theorem same13 {G : Gx} {H F0 F H' : Hp} {σ : L2.St} {ρ : Rho} {w : Nat} {ph : D} {r : Int} (I : Ok ⟨G, F0, H, []⟩ F H' σ ρ) (hs : ρ.all slP = true) (hl : ∀ l ∈ rls ρ, l ∈ rls (slots0 w ph r)) : Inv13 G H w ph r σ H' ρ :=
  back13 (fun _ => False) I hs hl (ow_of I) (fun q o e _ _ => e) (fun q o e => ⟨o, e⟩) I.tb.t (fun q z => z.elim) fun q z => z.elim
theorem iR_len {a : SA} {ρ ρ' : Rho} {n : Nat} (h : a ρ = some ([.int (n : Nat)], ρ')) (hn : n ≤ 1000) : iR a ρ = some (rng 0 n, ρ') := by
  unfold iR
  simp only [h]
  rw [if_pos ⟨by omega, by omega⟩, Int.toNat_natCast]
theorem rng_len {n : Nat} : (rng 0 n).length = n := by unfold rng; rw [List.length_map, List.length_range]
theorem ki_len (w : Nat) : (kiD w).length = (kindsD w).length := by unfold kiD; rw [List.length_map]
theorem kinds_le (w : Nat) : (kindsD w).length ≤ 1000 := by
  match w with
  | 0 => decide
  | 1 => decide
  | 2 => decide
  | 3 => decide
  | w + 4 => exact (show (3 : Nat) ≤ 1000 by decide)
theorem way_ok {G : Gx} {Ph : D → Prop} {od : D → Nat → List D} (hW : ∀ w ph r, w < 7 → Ph ph → WayOk w ph r (od ph)) : ∀ us H Q E, spWay G Ph us H Q E → law_way_right_T G (spRef G) { nx := fun _ H1 => Q .non H1, rt := Q } (L2.start N_law_way_right us) H := by
  intro us H Q E ⟨F, v1, v2, v3, v4, w, ph, r, e, tb, eu, hw, hP, rr, q⟩
  subst eu
  have W := hW w ph r hw hP
  have I0 : Ok ⟨G, F, H, []⟩ F H (L2.start N_law_way_right [.int (w : Nat), v1, v2, v3, v4]) [.val (.int (w : Nat)), .val (.lst (rightD w ph r)), .val netD, .val ph, .val pathD, .no, .no, .no, .no, .no] :=
    ok_start e tb (.vals (ds := [.int (w : Nat), .lst (rightD w ph r), netD, ph, pathD]) (.cons (.int _) rr)) 5
  have pn := List.all_eq_true.mp W.pn
  have hs0 : ([.val (.int (w : Nat)), .val (.lst (rightD w ph r)), .val netD, .val ph, .val pathD, .no, .no, .no, .no, .no] : Rho).all slP = true := by
    rw [List.all_eq_true]
    intro s hs
    simp only [List.mem_cons, List.not_mem_nil, or_false] at hs
    rcases hs with rfl | rfl | rfl | rfl | rfl | rfl | rfl | rfl | rfl | rfl
    · rfl
    · exact pn _ (by simp)
    · exact pn _ (by simp)
    · exact pn _ (by simp)
    · exact pn _ (by simp)
    all_goals rfl
  obtain ⟨F0, Fm, J0, ft0⟩ := same13 (w := w) (ph := ph) (r := r) (F0 := F) I0 hs0 (fun l hl => by
    have hl : l ∈ [] ++ (lsts (.lst (rightD w ph r)) ++ (lsts netD ++ (lsts ph ++ (lsts pathD ++ [])))) := hl
    show l ∈ [] ++ (lsts (.lst (rightD w ph r)) ++ (lsts netD ++ (lsts ph ++ (lsts pathD ++ (lsts (.lst (kiD w)) ++ [])))))
    simp only [List.nil_append, List.append_nil, List.mem_append] at hl ⊢
    rcases hl with h | h | h | h
    · exact .inl h
    · exact .inr (.inl h)
    · exact .inr (.inr (.inl h))
    · exact .inr (.inr (.inr (.inl h))))
  obtain ⟨ok, hk0⟩ := W.kinds
  have e1 : law_way_right_hb_1 [.val (.int (w : Nat)), .val (.lst (rightD w ph r)), .val netD, .val ph, .val pathD, .no, .no, .no, .no, .no] = some (.nx, slots0 w ph r ++ [.no, .no, .no, .no]) := by
    unfold law_way_right_hb_1 kSet
    have a : (aC (sV 0) aN) [.val (.int (w : Nat)), .val (.lst (rightD w ph r)), .val netD, .val ph, .val pathD, .no, .no, .no, .no, .no] = some ([.int (w : Nat)], [.val (.int (w : Nat)), .val (.lst (rightD w ph r)), .val netD, .val ph, .val pathD, .no, .no, .no, .no, .no]) := rfl
    rw [sCall_of (n := 1) (m := m_law_kinds) a rfl hk0]
    rfl
  refine seq_go rfl J0 e1 fun σ1 H1 F1 x1 I1 => ?_
  have hsl : ∀ (a b : Sl), slP a = true → sls a = [] → slP b = true → sls b = [] → (slots0 w ph r ++ [a, b, .no, .no]).all slP = true ∧ ∀ l ∈ rls (slots0 w ph r ++ [a, b, .no, .no]), l ∈ rls (slots0 w ph r) := fun a b h1 h2 h3 h4 => by
    constructor
    · rw [List.all_append, W.pn, Bool.true_and]
      show (slP a && (slP b && _)) = true
      rw [h1, h3]
      rfl
    · intro l hl
      rw [rls_app] at hl
      rcases List.mem_append.mp hl with h | h
      · exact h
      · have h : l ∈ sls a ++ (sls b ++ []) := h
        rw [h2, h4] at h
        cases h
  obtain ⟨n1, n2⟩ := hsl .no .no rfl rfl rfl rfl
  refine ⟨⟨G, F0, H, []⟩, F1, _, rfl, I1, rng 0 (kindsD w).length, slots0 w ph r ++ [.no, .no, .no, .no], ?_, fun F2 H2 x2 I2 => ⟨fun i σ' H' => i ≤ (kindsD w).length ∧ Inv13 G H w ph r σ' H' (slots0 w ph r ++ [.no, .no, .no, .no]), ⟨Nat.zero_le _, same13 I2 n1 n2⟩, fun i σ3 H3 ⟨hi, inv⟩ => ⟨by rw [rng_len]; exact hi, ?_⟩⟩⟩
  · refine iR_len (aC_of (sL_of (aC_of (d := .lst (kiD w)) rfl rfl) ?_) rfl) (kinds_le w)
    show some (D.int ((kiD w).length : Nat)) = _
    rw [ki_len]
  obtain ⟨F0', Fm', J, ft⟩ := inv
  refine ⟨⟨G, F0', H, []⟩, Fm', _, rfl, J, fun _ => ⟨⟨G, F0', H, []⟩, rfl, Fm', _, J, .rt (.bl true), _, rfl, fun v σ' H' F' x I' rv => by cases rv; exact q H' (fun q o e t => I'.fr q o e List.not_mem_nil t) I'.al I'.tb.t⟩, fun d hd => ⟨_, rfl, fun F3 H4 σ4 x3 I3 => ?_⟩⟩
  obtain ⟨hlt, rfl⟩ := rng_get hd
  obtain ⟨kd, hk⟩ : ∃ kd, (kindsD w)[i]? = some kd := ⟨_, List.getElem?_eq_getElem hlt⟩
  obtain ⟨⟨oo, ho⟩, hol⟩ := W.odds kd (List.mem_of_getElem? hk)
  rw [show ((0 : Int) + (i : Nat)) = ((i : Nat) : Int) by omega] at I3
  obtain ⟨m1, m2⟩ := hsl (.val (.int (i : Nat))) .no rfl rfl rfl rfl
  refine ⟨⟨G, F0', H, []⟩, F3, slots0 w ph r ++ [.val (.int (i : Nat)), .no, .no, .no], rfl, I3, rng 0 (od ph kd).length, slots0 w ph r ++ [.val (.int (i : Nat)), .no, .no, .no], ?_, fun F4 H5 x4 I4 => ⟨fun j σ' H' => j ≤ (od ph kd).length ∧ Inv13 G H w ph r σ' H' (slots0 w ph r ++ [.val (.int (i : Nat)), .no, .no, .no]), ⟨Nat.zero_le _, same13 I4 m1 m2⟩, fun j σ5 H6 ⟨hj, inv2⟩ => ⟨by rw [rng_len]; exact hj, ?_⟩⟩⟩
  · exact iR_len (aC_of (sL_of (aC_of (sCall_of (aC_of (s2_of rfl rfl (ki_at hk)) rfl) rfl ho) rfl) rfl) rfl) hol
  obtain ⟨F0'', Fm2, J2, ft2⟩ := inv2
  refine ⟨⟨G, F0'', H, []⟩, Fm2, _, rfl, J2, fun _ => ⟨hlt, ?_⟩, fun d2 hd2 => ⟨_, rfl, fun F5 H7 σ6 x5 I5 => ?_⟩⟩
  · refine same13 (F0 := F0'') (F := Fm2) (Toy.R13.Ok.sub J2 rfl fun a s' e => match a, e with
      | 0, e => .inr e
      | 1, e => .inr e
      | 2, e => .inr e
      | 3, e => .inr e
      | 4, e => .inr e
      | 5, e => .inr e
      | 6, e => by cases e; exact .inl rfl
      | 7, e => .inr e
      | 8, e => .inr e
      | 9, e => .inr e
      | a + 10, e => by simp at e) n1 n2
  · obtain ⟨hlt2, rfl⟩ := rng_get hd2
    rw [show ((0 : Int) + (j : Nat)) = ((j : Nat) : Int) by omega] at I5
    exact turn13 W hk (List.getElem?_eq_getElem hlt2) x5 ft2 I5 fun σ' H'' iv => ⟨hlt2, iv⟩
end Toy.R13

set_option Elab.async false
set_option linter.all false
set_option maxRecDepth 100000
set_option maxHeartbeats 1000000
namespace Toy.R13
open PySem PySem.Spec PyProof.Rows L2 VS
structure RefOk (w pl kd : Nat) (R : List D) (d : D) : Prop where
  at_ : R[pl]? = some d
  xc : ∀ p : Addr, ∃ k, mx_law_called [.val (.int (w : Nat)), .val (.lst (R.set pl (told p d)))] = some (.xc k (told p d)) ∧ (k, kd) ∈ Kinds13
  nb : unD d = d
  op : OptS d
  nl : (∀ ys, d ≠ .lst ys) → gIsTy2 3 d = some (.bl false)
  li : ∀ ys, d = .lst ys → noLs ys.length ys = true ∧ ys.length ≤ 1000 ∧ OptS (.lst (ys ++ [.str "more"])) ∧ ∀ p : Addr, apt (R.set pl (told p d)) ys = true
theorem call_ref {G : Gx} {c : VS.Ctx} {F H : Hp} {σ : L2.St} {ρ ρ' : Rho} {m : SA} {w pl kd : Nat} {R : List D} {d : D} {K : VK} (hc : c.G = G) (I : Ok c F H σ ρ)
    (e : m ρ = some ([.int (w : Nat), .lst R, .int (pl : Nat), .int (kd : Nat)], ρ')) (O : RefOk w pl kd R d)
    (k : ∀ F6 H6 H' p, Ext F F6 → Ok c F6 H6 σ ρ' → (∀ ys, d = .lst ys → ∃ us, F6 p = some (.lst us) ∧ Reps G F6 us ys) → (∀ q o, H6 q = some o → ¬ (q = p ∧ ∃ ys, d = .lst ys) → (∀ ps, o ≠ .tbl ps) → H' q = some o) → LamX.Tabs G.T H' → K (.bl true) H') :
    L2.tCall (spRef G) [] E0 (vaQ G m) σ H K := by
  refine ⟨c, hc, F, ρ, I, _, ρ', e, fun vs H6 F6 x6 I6 r6 => ?_⟩
  rw [hc] at r6
  rw [List.append_nil]
  cases r6 with
  | cons q0 r6 =>
  cases q0
  cases r6 with
  | @cons vg _ _ _ rg r6 =>
  cases r6 with
  | cons q2 r6 =>
  cases q2
  cases r6 with
  | cons q3 r6 =>
  cases q3
  cases r6
  cases rg with
  | @lst a gs _ hg rgs =>
  obtain ⟨vp, k1, k2⟩ := rgs.get O.at_
  obtain ⟨p, hp⟩ := atP_ex k2
  have z := Reps.set (hp.told k2) pl rgs
  have gset : gs.set pl vp = gs := by
    obtain ⟨hl, he⟩ := List.getElem?_eq_some_iff.mp k1
    rw [← he]; exact List.set_getElem_self hl
  rw [gset] at z
  have hd : (R.set pl (told p d))[pl]? = some (told p d) := List.getElem?_set_self (List.getElem?_eq_some_iff.mp O.at_).1
  obtain ⟨kk, h1, h2⟩ := O.xc p
  refine ⟨F6, _, w, pl, kd, R.set pl (told p d), told p d, kk, I6.fh, by rw [← hc]; exact I6.tb, rfl, .lst hg z, hd, h1, h2, by rw [told_un O.nb]; exact O.op, ?_⟩
  by_cases y : ∃ ys, d = .lst ys
  · obtain ⟨ys, rfl⟩ := y
    obtain ⟨_, us, f1, f2⟩ := hp ys rfl
    obtain ⟨a1, a2, a3, a4⟩ := O.li ys rfl
    have hl : us.length = ys.length := f2.length
    refine .inr ⟨p, us, ys, rfl, f1, apt_no (a4 p), by rw [hl]; exact a1, by rw [hl]; exact a2, a3, fun H' g1 g2 g3 => ?_⟩
    exact k F6 H6 H' p x6 I6 (fun ys e => by cases e; exact ⟨us, f1, f2⟩) (fun q o y n t => g1 q o y (fun z => n ⟨z, ys, rfl⟩) t) g3
  · have z' : ∀ ys, d ≠ .lst ys := fun ys e => y ⟨ys, e⟩
    refine .inl ⟨by rw [told_un O.nb]; exact O.nl z', fun H' F' kp => k F6 H6 H' p x6 I6 (fun ys e => absurd e (z' ys)) (fun q o e _ t => kp.h q o e List.not_mem_nil t) (kp.t (by rw [← hc]; exact I6.tb)).t⟩
abbrev rightsD (ph : D) (r : Int) : List D := [.lst (rightD 0 ph r), .lst (rightD 1 ph r), .lst (rightD 2 ph r), .lst (rightD 3 ph r), .lst (rightD 4 ph r), .lst (rightD 5 ph r), .lst (rightD 6 ph r)]
abbrev slotsL (ph : D) (r : Int) : Rho := [.no, .no, .val netD, .val madeD, .val ph, .val pathD, .val (.int r), .val (.lst (rightsD ph r)), .no]
structure LawFacts (Ph : D → Prop) (Rn : Int → Prop) (od : D → Nat → List D) : Prop where
  start : ∀ ns : List Int, ns.length ≤ 63 → ∃ xs1 xs3 xs4 ph r, Ph ph ∧ Rn r ∧ hb_1 [.val (.scr (ns.map .int)), .no, .no, .no, .no, .no, .no, .no, .no] = some (.nx, [.val (.scr (ns.map .int)), .own xs1, .no, .no, .no, .no, .no, .no, .no]) ∧
    hb_3 [.val (.scr (ns.map .int)), .own xs1, .val netD, .no, .no, .no, .no, .no, .no] = some (.nx, [.val (.scr (ns.map .int)), .own xs3, .val netD, .val madeD, .val ph, .val pathD, .no, .no, .no]) ∧
    hb_4 [.val (.scr (ns.map .int)), .own xs3, .val netD, .val madeD, .val ph, .val pathD, .no, .no, .no] = some (.nx, [.val (.scr (ns.map .int)), .own xs4, .val netD, .val madeD, .val ph, .val pathD, .val (.int r), .no, .no])
  called : ∀ w ph r, w < 7 → Ph ph → Rn r → ∃ x o, m_law_called [.val (.int (w : Nat)), .val (.lst (rightD w ph r))] = some (x, o)
  way : ∀ w ph r, w < 7 → Ph ph → WayOk w ph r (od ph)
  pn : ∀ ph r, Ph ph → (slotsL ph r).all slP = true ∧ ∀ l ∈ rls (slotsL ph r), apt l [.str "b", .str "a"] = true
  e1 : ∀ ph r, Ph ph → RefOk 1 3 2 [madeD, ph, .str "b", .str "c", .int r] (.str "c")
  e2 : ∀ ph r, Ph ph → RefOk 1 3 2 [madeD, ph, .str "a", .str "a", .int r] (.str "a")
  e3 : ∀ ph, Ph ph → RefOk 4 2 3 [madeD, ph, .lst [.str "b", .str "a"]] (.lst [.str "b", .str "a"])
  e4 : ∀ ph, Ph ph → RefOk 6 2 3 [madeD, ph, .lst [.str "a", .str "c"]] (.lst [.str "a", .str "c"])
def InvL (G : Gx) (ph : D) (r : Int) (σ : L2.St) (H' : Hp) : Prop := ∃ F0 Fm, Ok ⟨G, F0, fun _ => none, []⟩ Fm H' σ (slotsL ph r)
theorem backL {G : Gx} {F H6 H' : Hp} {c : VS.Ctx} {σ : L2.St} {ph : D} {r : Int} (ch : Addr → Prop) (hc : c.G = G) (I : Ok c F H6 σ (slotsL ph r)) (hs : (slotsL ph r).all slP = true)
    (kp : ∀ q o, H6 q = some o → ¬ ch q → (∀ ps, o ≠ .tbl ps) → H' q = some o) (tb : LamX.Tabs G.T H')
    (hch : ∀ q, ch q → ∃ us ys, F q = some (.lst us) ∧ Reps G F us ys ∧ ∀ l ∈ rls (slotsL ph r), apt l ys = true) : InvL G ph r σ H' := by
  subst hc
  obtain ⟨F0', Fm, x, J, ft⟩ := I.refoot (H' := H') (K0 := fun _ => none) ch hs (fun q o e => by cases e) (fun q o e => by cases e) (fun _ _ _ _ _ => rfl) kp tb hch
  exact ⟨F0', Fm, J⟩
theorem law_ok {Ph : D → Prop} {Rn : Int → Prop} {od : D → Nat → List D} (W : LawFacts Ph Rn od) {G : Gx} : LawOk G (spWay G Ph) (spRef G) := by
  intro us H Q E ⟨a, ns, e, hs, hl, tb, q⟩
  subst e
  have I0 : Ok ⟨G, noTab H, H, []⟩ (noTab H) H (L2.start N_law [.ref a]) [.val (.scr (ns.map .int)), .no, .no, .no, .no, .no, .no, .no, .no] := ok_start noTab_ext (noTab_tb tb) (.vals (ds := [.scr (ns.map .int)]) (.one (.scr (sqL_noTab hs) (reps_ints ns)))) 8
  obtain ⟨xs1, xs3, xs4, ph, r, hP, hR, s1, s3, s4⟩ := W.start ns hl
  refine seq_go rfl I0 s1 fun σ1 H1 F1 x1 I1 => ?_
  refine seq_go rfl I1 (show hb_2 _ = some (.nx, [.val (.scr (ns.map .int)), .own xs1, .val netD, .no, .no, .no, .no, .no, .no]) from rfl) fun σ2 H2 F2 x2 I2 => ?_
  refine seq_go rfl I2 s3 fun σ3 H3 F3 x3 I3 => ?_
  refine seq_go rfl I3 s4 fun σ4 H4 F4 x4 I4 => ?_
  refine seq_go rfl I4 (show hb_5 _ = some (.nx, [.val (.scr (ns.map .int)), .own xs4, .val netD, .val madeD, .val ph, .val pathD, .val (.int r), .val (.lst [.lst (rightD 0 ph r), .lst (rightD 1 ph r)]), .no]) from rfl) fun σ5 H5 F5 x5 I5 => ?_
  refine seq_go rfl I5 (show hb_6 _ = some (.nx, [.val (.scr (ns.map .int)), .own xs4, .val netD, .val madeD, .val ph, .val pathD, .val (.int r), .val (.lst (rightsD ph r)), .no]) by kernel_rfl) fun σ6 H6 F6 x6 I6 => ?_
  obtain ⟨hs, hap⟩ := W.pn ph r hP
  have I6' : Ok ⟨G, noTab H, H, []⟩ F6 H6 σ6 (slotsL ph r) := Toy.R13.Ok.sub I6 rfl fun i s' e => match i, e with
    | 0, e => by cases e; exact .inl rfl
    | 1, e => by cases e; exact .inl rfl
    | 2, e => .inr e
    | 3, e => .inr e
    | 4, e => .inr e
    | 5, e => .inr e
    | 6, e => .inr e
    | 7, e => .inr e
    | 8, e => .inr e
    | i + 9, e => by simp at e
  -- the loop
  refine ⟨_, F6, _, rfl, I6', rng 0 7, slotsL ph r, iR_len (n := 7) rfl (by decide), fun F7 H7 x7 I7 => ⟨fun i σ' H' => i ≤ 7 ∧ InvL G ph r σ' H', ⟨Nat.zero_le _, backL (fun _ => False) rfl I7 hs (fun q o e _ _ => e) I7.tb.t fun q z => z.elim⟩, fun i σ8 H8 ⟨hi, F0, Fm, J⟩ => ⟨by rw [rng_len]; exact hi, ?_⟩⟩⟩
  refine ⟨⟨G, F0, fun _ => none, []⟩, Fm, _, rfl, J, fun _ => ?_, fun d hd => ⟨_, rfl, fun F9 H9 σ9 x9 I9 => ?_⟩⟩
  · -- behind it
    refine call_ref (c := ⟨G, F0, fun _ => none, []⟩) rfl J (show hb_11 (slotsL ph r) = _ from rfl) (W.e1 ph r hP) fun Fa Ha Hb p xa Ia hp kp tb => ⟨true, rfl, iteF ?_⟩
    obtain ⟨F0a, Fma, Ja⟩ := backL (G := G) (fun _ => False) rfl Ia hs (fun q o e _ t => kp q o e (fun z => by obtain ⟨_, ys, z⟩ := z; cases z) t) tb fun q z => z.elim
    refine call_ref (c := ⟨G, F0a, fun _ => none, []⟩) rfl Ja (show hb_13 (slotsL ph r) = _ from rfl) (W.e2 ph r hP) fun Fb Hb Hc p2 xb Ib hp2 kp2 tb2 => ⟨true, rfl, iteF ?_⟩
    obtain ⟨F0b, Fmb, Jb⟩ := backL (G := G) (fun _ => False) rfl Ib hs (fun q o e _ t => kp2 q o e (fun z => by obtain ⟨_, ys, z⟩ := z; cases z) t) tb2 fun q z => z.elim
    refine call_ref (c := ⟨G, F0b, fun _ => none, []⟩) rfl Jb (show hb_15 (slotsL ph r) = _ from rfl) (W.e3 ph hP) fun Fc Hc Hd p3 xc Ic hp3 kp3 tb3 => ⟨true, rfl, iteT ?_⟩
    obtain ⟨F0c, Fmc, Jc⟩ := backL (G := G) (fun q => q = p3) rfl Ic hs (fun q o e n t => kp3 q o e (fun z => n z.1) t) tb3 fun q z => by
      subst z
      obtain ⟨us, f1, f2⟩ := hp3 _ rfl
      exact ⟨us, _, f1, f2, hap⟩
    exact call_ref (c := ⟨G, F0c, fun _ => none, []⟩) rfl Jc (show hb_16 (slotsL ph r) = _ from rfl) (W.e4 ph hP) fun Fd Hd He p4 xd Id hp4 kp4 tb4 => q He
  · obtain ⟨hlt, rfl⟩ := rng_get hd
    rw [show ((0 : Int) + (i : Nat)) = ((i : Nat) : Int) by omega] at I9
    have at7 : gIx (.lst (rightsD ph r)) (.int (i : Nat)) = some (.lst (rightD i ph r)) := by
      match i, hlt with
      | 0, _ => rfl
      | 1, _ => rfl
      | 2, _ => rfl
      | 3, _ => rfl
      | 4, _ => rfl
      | 5, _ => rfl
      | 6, _ => rfl
    obtain ⟨x, o, hx⟩ := W.called i ph r hlt hP hR
    have e8 : hb_8 ((slotsL ph r).set 8 (.val (.int (i : Nat)))) = some (.nx, (slotsL ph r).set 8 (.val (.int (i : Nat)))) := by
      have a : (aC (sV 8) (aC (s2 gIx (sV 7) (sV 8)) aN)) ((slotsL ph r).set 8 (.val (.int (i : Nat)))) = some ([.int (i : Nat), .lst (rightD i ph r)], (slotsL ph r).set 8 (.val (.int (i : Nat)))) := aC_of rfl (aC_of (s2_of rfl rfl at7) rfl)
      unfold hb_8 kDrop
      rw [sCall_of (n := 2) a rfl hx]
    refine seq_go rfl I9 e8 fun σa Ha Fa xa Ia => ?_
    have e9 : hb_9 ((slotsL ph r).set 8 (.val (.int (i : Nat)))) = some ([.int (i : Nat), .lst (rightD i ph r), netD, ph, pathD], (slotsL ph r).set 8 (.val (.int (i : Nat)))) := aC_of rfl (aC_of (s2_of rfl rfl at7) rfl)
    refine ⟨_, rfl, Fa, _, Ia, _, _, e9, fun vs Hb Fb xb Ib rb => ?_⟩
    show spWay G Ph (vs ++ []) _ _ _
    rw [List.append_nil]
    cases rb with
    | cons q0 rb =>
    cases q0
    cases rb with
    | @cons v1 _ _ _ r1 rb =>
    cases rb with
    | @cons v2 _ _ _ r2 rb =>
    cases rb with
    | @cons v3 _ _ _ r3 rb =>
    cases rb with
    | @cons v4 _ _ _ r4 rb =>
    cases rb
    refine ⟨Fb, v1, v2, v3, v4, i, ph, r, Ib.fh, Ib.tb, rfl, hlt, hP, .cons r1 (.cons r2 (.cons r3 (.cons r4 .nil))), fun H' g1 g2 g3 => ⟨true, rfl, iteF ⟨hlt, ?_⟩⟩⟩
    have Ib' : Ok ⟨G, F0, fun _ => none, []⟩ Fb Hb σa (slotsL ph r) := Toy.R13.Ok.sub Ib rfl fun i s' e => match i, e with
      | 0, e => .inr e
      | 1, e => .inr e
      | 2, e => .inr e
      | 3, e => .inr e
      | 4, e => .inr e
      | 5, e => .inr e
      | 6, e => .inr e
      | 7, e => .inr e
      | 8, e => by cases e; exact .inl rfl
      | i + 9, e => by simp at e
    exact backL (G := G) (fun _ => False) rfl Ib' hs (fun q o e _ t => g1 q o e t) g3 fun q z => z.elim
end Toy.R13

set_option Elab.async false
set_option linter.all false
set_option maxRecDepth 100000
set_option maxHeartbeats 2000000
namespace Toy.R13
open PySem PySem.Spec PyProof.Rows L2 VS
section
variable {a b : SX} {e : EX} {t : SB} {se : SE} {sa : SA} {ρ ρ1 ρ2 : Rho} {k n i : Nat} {d : D} {r : Option Rz} {xs o : List D} {m : MirX}
theorem xS_xc (h : a ρ = some (.xc k d ρ1)) : xS a b ρ = some (.xc k d ρ1) := by unfold xS; rw [h]
theorem xS_nx (h : a ρ = some (.go .nx ρ1)) (h2 : b ρ1 = r) : xS a b ρ = r := by unfold xS; rw [h]; exact h2
theorem xDrop_xc (h : e ρ = some (.xc k d ρ1)) : xDrop e ρ = some (.xc k d ρ1) := by unfold xDrop; rw [h]
theorem xDrop_v (h : e ρ = some (.v d ρ1)) : xDrop e ρ = some (.go .nx ρ1) := by unfold xDrop; rw [h]
theorem xRet_xc (h : e ρ = some (.xc k d ρ1)) : xRet e ρ = some (.xc k d ρ1) := by unfold xRet; rw [h]
theorem xSet_xc (h : e ρ = some (.xc k d ρ1)) : xSet i e ρ = some (.xc k d ρ1) := by unfold xSet; rw [h]
theorem xIf_t (h : t ρ = some (true, ρ1)) (h2 : a ρ1 = r) : xIf t a b ρ = r := by unfold xIf; rw [h]; exact h2
theorem xIf_f (h : t ρ = some (false, ρ1)) (h2 : b ρ1 = r) : xIf t a b ρ = r := by unfold xIf; rw [h]; exact h2
theorem xRaise_of (h : se ρ = some (d, ρ1)) : xRaise k se ρ = some (.xc k d ρ1) := by unfold xRaise; rw [h]
theorem sCallX_xc (h : sa ρ = some (xs, ρ1)) (hn : xs.length = n) (hm : m (xs.map .val) = some (.xc k d)) : sCallX n m sa ρ = some (.xc k d ρ1) := by unfold sCallX; simp only [h, hn, if_true, hm]
theorem sCallX_ret (h : sa ρ = some (xs, ρ1)) (hn : xs.length = n) (hm : m (xs.map .val) = some (.ret d o)) : sCallX n m sa ρ = some (.v d ρ1) := by unfold sCallX; simp only [h, hn, if_true, hm]
theorem mirX_xc {s : SX} {sl : List Sl} (h : s (sl ++ List.replicate (n - sl.length) .no) = some (.xc k d ρ)) : mirX n s sl = some (.xc k d) := by unfold mirX; rw [h]
theorem mirX_nx {s : SX} {sl : List Sl} (h : s (sl ++ List.replicate (n - sl.length) .no) = some (.go .nx ρ)) (h2 : outOf sl ρ = some o) : mirX n s sl = some (.ret .non o) := by unfold mirX; simp only [h, h2]
end
section
variable {x0 x1 x2 x3 x4 : D} {k : Nat} {d : D}

theorem cnp_net (h : mx_check_net [.val x0] = some (.xc k d)) : mx_check_net_and_phases [.val x0, .val x1] = some (.xc k d) := mirX_xc (xS_xc (xDrop_xc (sCallX_xc (aC_of rfl rfl) rfl h)))
theorem cnp_ph (h0 : mx_check_net [.val x0] = some (.ret .non [])) (h : mx_check_phases [.val x0, .val x1] = some (.xc k d)) : mx_check_net_and_phases [.val x0, .val x1] = some (.xc k d) := mirX_xc (xS_nx (xDrop_v (sCallX_ret (aC_of rfl rfl) rfl h0)) (xDrop_xc (sCallX_xc (aC_of rfl (aC_of rfl rfl)) rfl h)))
theorem cnp_ok (h0 : mx_check_net [.val x0] = some (.ret .non [])) (h : mx_check_phases [.val x0, .val x1] = some (.ret .non [])) : mx_check_net_and_phases [.val x0, .val x1] = some (.ret .non []) := mirX_nx (xS_nx (xDrop_v (sCallX_ret (aC_of rfl rfl) rfl h0)) (xDrop_v (sCallX_ret (aC_of rfl (aC_of rfl rfl)) rfl h))) rfl
theorem begun_0 (h0 : mx_check_net_and_phases [.val x0, .val x1] = some (.xc k d)) : mx_begun [.val x0, .val x1, .val x2, .val x3] = some (.xc k d) := mirX_xc (xS_xc (xDrop_xc (sCallX_xc (aC_of rfl (aC_of rfl rfl)) rfl h0)))
theorem begun_1 (h0 : mx_check_net_and_phases [.val x0, .val x1] = some (.ret .non [])) (h1 : mx_check_name [.val x0, .val x2] = some (.xc k d)) : mx_begun [.val x0, .val x1, .val x2, .val x3] = some (.xc k d) := mirX_xc (xS_nx (xDrop_v (sCallX_ret (aC_of rfl (aC_of rfl rfl)) rfl h0)) (xS_xc (xDrop_xc (sCallX_xc (aC_of rfl (aC_of rfl rfl)) rfl h1))))
theorem begun_2 (h0 : mx_check_net_and_phases [.val x0, .val x1] = some (.ret .non [])) (h1 : mx_check_name [.val x0, .val x2] = some (.ret .non [])) (h2 : mx_check_whole [.val x3] = some (.xc k d)) : mx_begun [.val x0, .val x1, .val x2, .val x3] = some (.xc k d) := mirX_xc (xS_nx (xDrop_v (sCallX_ret (aC_of rfl (aC_of rfl rfl)) rfl h0)) (xS_nx (xDrop_v (sCallX_ret (aC_of rfl (aC_of rfl rfl)) rfl h1)) (xS_xc (xDrop_xc (sCallX_xc (aC_of rfl rfl) rfl h2)))))
theorem carried_0 (h0 : mx_check_net_and_phases [.val x0, .val x1] = some (.xc k d)) : mx_carried [.val x0, .val x1, .val x2, .val x3] = some (.xc k d) := mirX_xc (xS_xc (xDrop_xc (sCallX_xc (aC_of rfl (aC_of rfl rfl)) rfl h0)))
theorem carried_1 (h0 : mx_check_net_and_phases [.val x0, .val x1] = some (.ret .non [])) (h1 : mx_check_path [.val x0, .val x2] = some (.xc k d)) : mx_carried [.val x0, .val x1, .val x2, .val x3] = some (.xc k d) := mirX_xc (xS_nx (xDrop_v (sCallX_ret (aC_of rfl (aC_of rfl rfl)) rfl h0)) (xS_xc (xDrop_xc (sCallX_xc (aC_of rfl (aC_of rfl rfl)) rfl h1))))
theorem carried_2 (h0 : mx_check_net_and_phases [.val x0, .val x1] = some (.ret .non [])) (h1 : mx_check_path [.val x0, .val x2] = some (.ret .non [])) (h2 : mx_check_whole [.val x3] = some (.xc k d)) : mx_carried [.val x0, .val x1, .val x2, .val x3] = some (.xc k d) := mirX_xc (xS_nx (xDrop_v (sCallX_ret (aC_of rfl (aC_of rfl rfl)) rfl h0)) (xS_nx (xDrop_v (sCallX_ret (aC_of rfl (aC_of rfl rfl)) rfl h1)) (xS_xc (xDrop_xc (sCallX_xc (aC_of rfl rfl) rfl h2)))))
theorem ages_0 (h0 : mx_check_net_and_phases [.val x0, .val x1] = some (.xc k d)) : mx_ages [.val x0, .val x1, .val x2] = some (.xc k d) := mirX_xc (xS_xc (xDrop_xc (sCallX_xc (aC_of rfl (aC_of rfl rfl)) rfl h0)))
theorem ages_1 (h0 : mx_check_net_and_phases [.val x0, .val x1] = some (.ret .non [])) (h1 : mx_check_path [.val x0, .val x2] = some (.xc k d)) : mx_ages [.val x0, .val x1, .val x2] = some (.xc k d) := mirX_xc (xS_nx (xDrop_v (sCallX_ret (aC_of rfl (aC_of rfl rfl)) rfl h0)) (xS_xc (xDrop_xc (sCallX_xc (aC_of rfl (aC_of rfl rfl)) rfl h1))))
theorem longest_wait_0 (h0 : mx_check_net_and_phases [.val x0, .val x1] = some (.xc k d)) : mx_longest_wait [.val x0, .val x1, .val x2] = some (.xc k d) := mirX_xc (xS_xc (xDrop_xc (sCallX_xc (aC_of rfl (aC_of rfl rfl)) rfl h0)))
theorem longest_wait_1 (h0 : mx_check_net_and_phases [.val x0, .val x1] = some (.ret .non [])) (h1 : mx_check_path [.val x0, .val x2] = some (.xc k d)) : mx_longest_wait [.val x0, .val x1, .val x2] = some (.xc k d) := mirX_xc (xS_nx (xDrop_v (sCallX_ret (aC_of rfl (aC_of rfl rfl)) rfl h0)) (xS_xc (xDrop_xc (sCallX_xc (aC_of rfl (aC_of rfl rfl)) rfl h1))))
theorem uses_0 (h0 : mx_check_net_and_phases [.val x0, .val x1] = some (.xc k d)) : mx_uses [.val x0, .val x1, .val x2] = some (.xc k d) := mirX_xc (xS_xc (xDrop_xc (sCallX_xc (aC_of rfl (aC_of rfl rfl)) rfl h0)))
theorem uses_1 (h0 : mx_check_net_and_phases [.val x0, .val x1] = some (.ret .non [])) (h1 : mx_check_path [.val x0, .val x2] = some (.xc k d)) : mx_uses [.val x0, .val x1, .val x2] = some (.xc k d) := mirX_xc (xS_nx (xDrop_v (sCallX_ret (aC_of rfl (aC_of rfl rfl)) rfl h0)) (xS_xc (xDrop_xc (sCallX_xc (aC_of rfl (aC_of rfl rfl)) rfl h1))))
theorem age_x (h : mx_carried [.val x0, .val x1, .val x2, .val x3] = some (.xc k d)) : mx_age [.val x0, .val x1, .val x2, .val x3] = some (.xc k d) := mirX_xc (xS_xc (xSet_xc (sCallX_xc (aC_of rfl (aC_of rfl (aC_of rfl (aC_of rfl rfl)))) rfl h)))
abbrev nwT : SB := (bOr (bNot (sB (s1 (gIsTy2 2) (sU (sV 3)))))
          (sB
            (s2 gNotIn (sU (sV 3))
              (s1 (gFld 0 3)
                (sU
                  (s2 gIx (s1 (gFld 1 0) (sU (sV 0)))
                    (sCall 2 m_place_of (aC (sU (sV 0)) (aC (sU (sV 2)) aN)))))))))
theorem newest_0 (h0 : mx_check_net_and_phases [.val x0, .val x1] = some (.xc k d)) : mx_newest [.val x0, .val x1, .val x2, .val x3, .val x4] = some (.xc k d) := mirX_xc (xS_xc (xDrop_xc (sCallX_xc (aC_of rfl (aC_of rfl rfl)) rfl h0)))
theorem newest_1 (h0 : mx_check_net_and_phases [.val x0, .val x1] = some (.ret .non [])) (h1 : mx_check_name [.val x0, .val x2] = some (.xc k d)) : mx_newest [.val x0, .val x1, .val x2, .val x3, .val x4] = some (.xc k d) := mirX_xc (xS_nx (xDrop_v (sCallX_ret (aC_of rfl (aC_of rfl rfl)) rfl h0)) (xS_xc (xDrop_xc (sCallX_xc (aC_of rfl (aC_of rfl rfl)) rfl h1))))
theorem newest_2 (h0 : mx_check_net_and_phases [.val x0, .val x1] = some (.ret .non [])) (h1 : mx_check_name [.val x0, .val x2] = some (.ret .non [])) (h2 : nwT [.val x0, .val x1, .val x2, .val x3, .val x4, .no, .no] = some (true, [.val x0, .val x1, .val x2, .val x3, .val x4, .no, .no])) : mx_newest [.val x0, .val x1, .val x2, .val x3, .val x4] = some (.xc 6 x3) := mirX_xc (xS_nx (xDrop_v (sCallX_ret (aC_of rfl (aC_of rfl rfl)) rfl h0)) (xS_nx (xDrop_v (sCallX_ret (aC_of rfl (aC_of rfl rfl)) rfl h1)) (xS_xc (xIf_t h2 (xRaise_of rfl)))))
theorem newest_3 (h0 : mx_check_net_and_phases [.val x0, .val x1] = some (.ret .non [])) (h1 : mx_check_name [.val x0, .val x2] = some (.ret .non [])) (h2 : nwT [.val x0, .val x1, .val x2, .val x3, .val x4, .no, .no] = some (false, [.val x0, .val x1, .val x2, .val x3, .val x4, .no, .no])) (h3 : mx_check_whole [.val x4] = some (.xc k d)) : mx_newest [.val x0, .val x1, .val x2, .val x3, .val x4] = some (.xc k d) := mirX_xc (xS_nx (xDrop_v (sCallX_ret (aC_of rfl (aC_of rfl rfl)) rfl h0)) (xS_nx (xDrop_v (sCallX_ret (aC_of rfl (aC_of rfl rfl)) rfl h1)) (xS_nx (xIf_f h2 rfl) (xS_xc (xDrop_xc (sCallX_xc (aC_of rfl rfl) rfl h3))))))
theorem called_0 (h : mx_begun [.val x0, .val x1, .val x2, .val x3] = some (.xc k d)) : mx_law_called [.val (.int 0), .val (.lst [x0, x1, x2, x3])] = some (.xc k d) := mirX_xc (xS_xc (xIf_t rfl (xRet_xc (sCallX_xc (aC_of rfl (aC_of rfl (aC_of rfl (aC_of rfl rfl)))) rfl h))))
theorem called_1 (h : mx_newest [.val x0, .val x1, .val x2, .val x3, .val x4] = some (.xc k d)) : mx_law_called [.val (.int 1), .val (.lst [x0, x1, x2, x3, x4])] = some (.xc k d) := mirX_xc (xS_nx (xIf_f rfl rfl) (xS_xc (xIf_t rfl (xRet_xc (sCallX_xc (aC_of rfl (aC_of rfl (aC_of rfl (aC_of rfl (aC_of rfl rfl))))) rfl h)))))
theorem called_2 (h : mx_carried [.val x0, .val x1, .val x2, .val x3] = some (.xc k d)) : mx_law_called [.val (.int 2), .val (.lst [x0, x1, x2, x3])] = some (.xc k d) := mirX_xc (xS_nx (xIf_f rfl rfl) (xS_nx (xIf_f rfl rfl) (xS_xc (xIf_t rfl (xRet_xc (sCallX_xc (aC_of rfl (aC_of rfl (aC_of rfl (aC_of rfl rfl)))) rfl h))))))
theorem called_3 (h : mx_age [.val x0, .val x1, .val x2, .val x3] = some (.xc k d)) : mx_law_called [.val (.int 3), .val (.lst [x0, x1, x2, x3])] = some (.xc k d) := mirX_xc (xS_nx (xIf_f rfl rfl) (xS_nx (xIf_f rfl rfl) (xS_nx (xIf_f rfl rfl) (xS_xc (xIf_t rfl (xRet_xc (sCallX_xc (aC_of rfl (aC_of rfl (aC_of rfl (aC_of rfl rfl)))) rfl h)))))))
theorem called_4 (h : mx_ages [.val x0, .val x1, .val x2] = some (.xc k d)) : mx_law_called [.val (.int 4), .val (.lst [x0, x1, x2])] = some (.xc k d) := mirX_xc (xS_nx (xIf_f rfl rfl) (xS_nx (xIf_f rfl rfl) (xS_nx (xIf_f rfl rfl) (xS_nx (xIf_f rfl rfl) (xS_xc (xIf_t rfl (xRet_xc (sCallX_xc (aC_of rfl (aC_of rfl (aC_of rfl rfl))) rfl h))))))))
theorem called_5 (h : mx_longest_wait [.val x0, .val x1, .val x2] = some (.xc k d)) : mx_law_called [.val (.int 5), .val (.lst [x0, x1, x2])] = some (.xc k d) := mirX_xc (xS_nx (xIf_f rfl rfl) (xS_nx (xIf_f rfl rfl) (xS_nx (xIf_f rfl rfl) (xS_nx (xIf_f rfl rfl) (xS_nx (xIf_f rfl rfl) (xS_xc (xIf_t rfl (xRet_xc (sCallX_xc (aC_of rfl (aC_of rfl (aC_of rfl rfl))) rfl h)))))))))
theorem called_6 (h : mx_uses [.val x0, .val x1, .val x2] = some (.xc k d)) : mx_law_called [.val (.int 6), .val (.lst [x0, x1, x2])] = some (.xc k d) := mirX_xc (xS_nx (xIf_f rfl rfl) (xS_nx (xIf_f rfl rfl) (xS_nx (xIf_f rfl rfl) (xS_nx (xIf_f rfl rfl) (xS_nx (xIf_f rfl rfl) (xS_nx (xIf_f rfl rfl) (xRet_xc (sCallX_xc (aC_of rfl (aC_of rfl (aC_of rfl rfl))) rfl h))))))))
end
end Toy.R13

set_option Elab.async false
set_option linter.all false
set_option maxRecDepth 100000
set_option maxHeartbeats 4000000
namespace Toy.R13
open PySem PySem.Spec PyProof.Rows L2 VS
theorem int_len {i : Int} (h0 : -1000000 ≤ i) (h1 : i ≤ 1000000) : (Str.ofString (toString i)).length ≤ 9 := by
  rw [PySem.ofString_length]
  cases i with
  | ofNat m =>
    show m.repr.length ≤ 9
    have hm : (m : Int) ≤ 1000000 := h1
    exact (Nat.length_repr_le_iff (by decide)).mpr (by
      have z : (1000000 : Nat) < 10 ^ 9 := by decide
      omega)
  | negSucc m =>
    show ("-" ++ (m + 1).repr).length ≤ 9
    rw [String.length_append]
    have h : (m + 1).repr.length ≤ 8 := (Nat.length_repr_le_iff (by decide)).mpr (by
      have z : (1000000 : Nat) < 10 ^ 8 := by decide
      omega)
    have : ("-" : String).length = 1 := by decide
    omega
theorem text_le : ∀ (ts : List Str) (k : Nat) (acc : Str), (textFrom k acc ts).length ≤ acc.length + piled ts
  | [], k, acc => Nat.le_add_right _ _
  | t :: r, k, acc => by
    have ih := text_le r (k + 1) (acc ++ (if k > 0 then ", " else "" : String) ++ t)
    have e : (acc ++ (if k > 0 then ", " else "" : String) ++ t).length = acc.length + (if k > 0 then 2 else 0) + t.length := by
      rw [strLen_append, strLen_append]
      split <;> rfl
    have d : (if k > 0 then 2 else 0 : Nat) ≤ 2 := by split <;> omega
    rw [piled_cons]
    rw [e] at ih
    show (textFrom (k + 1) _ r).length ≤ _
    omega
theorem list_le (ts : List Str) : (listText ts).length ≤ piled ts + 2 := by
  have := text_le ts 0 "["
  unfold listText
  rw [strLen_append]
  have a : ((("[" : String) : Str)).length = 1 := rfl
  have b : ((("]" : String) : Str)).length = 1 := rfl
  omega
theorem tup_le (ts : List Str) : (tupleText ts).length ≤ piled ts + 3 := by
  unfold tupleText
  rw [strLen_append, strLen_append]
  have a : ((("(" : String) : Str)).length = 1 := rfl
  have c : (((if ts.length == 1 then ",)" else ")" : String) : Str)).length ≤ 2 := by split <;> decide
  have b : (Str.join ", " ts).length ≤ piled ts := by
    by_cases z : ts = []
    · subst z; exact Nat.le_refl _
    · have := join_length_add ts z
      omega
  omega
def ShB (n : Nat) (d : D) : Prop := ∃ t, shD oNo d = some t ∧ t.length ≤ n
def ShBs (n : Nat) (ds : List D) : Prop := ∃ ts, shDs oNo ds = some ts ∧ piled ts ≤ n
theorem shN : ShBs 0 [] := ⟨[], rfl, Nat.le_refl _⟩
theorem shC {a b : Nat} {d : D} {ds : List D} : ShB a d → ShBs b ds → ShBs (a + 2 + b) (d :: ds) := fun ⟨t, h1, h2⟩ ⟨ts, h3, h4⟩ => ⟨t :: ts, by unfold shDs; rw [h1, h3], by rw [piled_cons]; omega⟩
theorem shT {a : Nat} {ds : List D} : ShBs a ds → ShB (a + 3) (.tup ds) := fun ⟨ts, h1, h2⟩ => ⟨tupleText ts, by unfold shD; rw [h1], Nat.le_trans (tup_le ts) (by omega)⟩
theorem shL {a : Nat} {ds : List D} : ShBs a ds → ShB (a + 2) (.lst ds) := fun ⟨ts, h1, h2⟩ => ⟨listText ts, by unfold shD; rw [h1], Nat.le_trans (list_le ts) (by omega)⟩
theorem shI {i : Int} (h0 : -1000000 ≤ i) (h1 : i ≤ 1000000) : ShB 9 (.int i) := ⟨_, if_pos (by
  have h : i.natAbs ≤ 1000000 := by omega
  rcases Nat.eq_zero_or_pos i.natAbs with z | z
  · rw [z]; decide
  · exact (Nat.log2_lt (by omega)).mpr (Nat.lt_of_le_of_lt h (Nat.lt_of_lt_of_le (show 1000000 < 2 ^ 20 by decide) (Nat.pow_le_pow_right (by decide) (by decide))))), int_len h0 h1⟩
theorem shF {q : Int × Int} (h : FrOk q) : ShB 25 (frD q) := shT (shC (shI h.2.2.1 h.2.2.2) (shC (shI (by have := h.1; omega) (by have := h.2.1; omega)) shN))
theorem opt_of {n : Nat} {d : D} (h : ShB n d) (hn : Nat.ble n 4000 = true) (h2 : Nat.ble (dpD d) 10 = true) : OptS d := let ⟨t, h3, h4⟩ := h; ⟨t, h3, Nat.le_trans h4 (Nat.le_of_ble_eq_true hn), Nat.le_of_ble_eq_true h2⟩
theorem shK {n : Nat} {d : D} {t : Str} (h : shD oNo d = some t) (h2 : Nat.ble t.length n = true) : ShB n d := ⟨t, h, Nat.le_of_ble_eq_true h2⟩
abbrev phD (a b c : Int × Int) : D := .tup [frD a, frD b, frD c]
structure Base (d : D) : Prop where
  nb : unD d = d
  op : OptS d
  pn : plnD d = true
  nl : (∀ ys, d ≠ .lst ys) → gIsTy2 3 d = some (.bl false)
  li : ∀ ys, d = .lst ys → noLs ys.length ys = true ∧ ys.length ≤ 1000 ∧ OptS (.lst (ys ++ [.str "more"])) ∧ apt [.str "a", .str "b", .str "c", .str "c"] ys = true ∧ (∀ w, w < 7 → apt (kiD w) ys = true) ∧ ∀ r, apt (madeD :: r) ys = true
theorem base_nl {d : D} (nb : unD d = d) (op : OptS d) (pn : plnD d = true) (hn : ∀ ys, d ≠ .lst ys) (nl : gIsTy2 3 d = some (.bl false)) : Base d := ⟨nb, op, pn, fun _ => nl, fun ys e => absurd e (hn ys)⟩
theorem base_l {ys : List D} (op : OptS (.lst ys)) (pn : plnD (.lst ys) = true) (h1 : noLs ys.length ys = true) (h2 : Nat.ble ys.length 1000 = true) (h3 : OptS (.lst (ys ++ [.str "more"]))) (h4 : apt [.str "a", .str "b", .str "c", .str "c"] ys = true)
    (k0 : apt (kiD 0) ys = true) (k1 : apt (kiD 1) ys = true) (k2 : apt (kiD 2) ys = true) (k3 : apt (kiD 3) ys = true) (k4 : apt (kiD 4) ys = true) (k5 : apt (kiD 5) ys = true) (k6 : apt (kiD 6) ys = true) (h6 : ∀ r, apt (madeD :: r) ys = true) : Base (.lst ys) :=
  ⟨rfl, op, pn, fun h => absurd rfl (h ys), fun zs e => by
    cases e
    refine ⟨h1, Nat.le_of_ble_eq_true h2, h3, h4, fun w hw => ?_, h6⟩
    match w, hw with
    | 0, _ => exact k0
    | 1, _ => exact k1
    | 2, _ => exact k2
    | 3, _ => exact k3
    | 4, _ => exact k4
    | 5, _ => exact k5
    | 6, _ => exact k6⟩
theorem frac_comp {M : Sl} {l : List (D × Bool)} (h : ∀ x ∈ l, m_is_fraction [.val x.1] = some (.bl x.2, []) ∧ unD x.1 = x.1) (hl : l.length ≤ 1000) :
    sComp (iTupl (sU (sV 1))) (.nm 2) (bNot (sB (sCall 1 m_is_fraction (aC (sU (sV 2)) aN)))) (sU (sV 2)) [M, .val (.tup (l.map (·.1))), .no] = some (.lst (l.filterMap fun x => if x.2 then none else some x.1), [M, .val (.tup (l.map (·.1))), .no]) := by
  have c := cLoop_flt (t := .nm 2) (tt := bNot (sB (sCall 1 m_is_fraction (aC (sU (sV 2)) aN)))) (e := sU (sV 2)) (ρ := [M, .val (.tup (l.map (·.1))), .no]) (g := fun x : D × Bool => x.1) (f := fun x => if x.2 then none else some x.1) (ds := l) fun x hx => by
    obtain ⟨q1, q2⟩ := h x hx
    obtain ⟨y, b⟩ := x
    simp only at q1 q2
    cases M <;> cases b <;> simp [turnC, okT, Tg.ix, blkR, wipeR, toB, tgt, bNot, sB, sCall, aC, aN, sV, sU, q1, q2, restore]
  refine sComp_of (ds := l.map (·.1)) rfl c ?_
  exact Nat.le_trans (List.length_filterMap_le _ _) (Nat.le_trans hl (by decide))

def oddD (a b c : Int × Int) (kd : Nat) : List D := match kd with
  | 0 => [.non, netD, .lst [], .str "net", .int 0, .bl true]
  | 1 => [.non, .lst [frD a, frD b, frD c], .tup [frD b, frD c], .tup [frD a, frD b, frD c, frD a], .int 0, .tup [], .str "0", .tup [.tup [.int 0, .int 0], frD b, frD c], .tup [.tup [.int 0, .int (-1)], frD b, frD c], .tup [.int 0, frD b, frD c], .tup [.tup [.int 0, .int 1, .int 1], frD b, frD c], .tup [.lst [.int 0, .int 1], frD b, frD c], .tup [frD a, frD b, .tup [.bl true, .int 1]], .tup [frD a, frD b, .tup [.int 0, .bl true]], .tup [frD a, frD b, .non]]
  | 2 => [.non, .int 0, .str "nobody", .str "", .lst [.str "a"], .bl true, .tup [.str "a"], netD]
  | 3 => [.non, .lst [], .tup [.str "a", .str "b", .str "c", .str "c"], .str "a", .lst [.str "nobody"], .lst [.str "a", .str "b", .str "c", .str "c", .str "nobody"], .lst [.non, .str "a", .str "b", .str "c", .str "c"], .dct false [] [], .lst [.lst [.str "a", .str "b", .str "c", .str "c"]], .lst [.str "zq", .str "zq"]]
  | _ => [.non, .bl true, .bl false, .str "0", .lst [.int 0], .tup [.int 1], .tup [.int 1, .int 1]]
theorem odd_eq0 (a b c : Int × Int) : m_law_odd [.val (.int 0), .val netD, .val (phD a b c), .val pathD] = some (.lst (oddD a b c 0), []) := by kernel_rfl
theorem odd_eq1 (a b c : Int × Int) : m_law_odd [.val (.int 1), .val netD, .val (phD a b c), .val pathD] = some (.lst (oddD a b c 1), []) := by kernel_rfl
theorem odd_eq2 (a b c : Int × Int) : m_law_odd [.val (.int 2), .val netD, .val (phD a b c), .val pathD] = some (.lst (oddD a b c 2), []) := by kernel_rfl
theorem odd_eq3 (a b c : Int × Int) : m_law_odd [.val (.int 3), .val netD, .val (phD a b c), .val pathD] = some (.lst (oddD a b c 3), []) := by kernel_rfl
theorem odd_eq4 (a b c : Int × Int) : m_law_odd [.val (.int 4), .val netD, .val (phD a b c), .val pathD] = some (.lst (oddD a b c 4), []) := by kernel_rfl
theorem base0_0 {a b c : Int × Int} (ha : FrOk a) (hb : FrOk b) (hc : FrOk c) : Base (.non) := (base_nl (d := .non) rfl (opt_of (shK (n := 400) (d := .non) rfl (by decide +kernel)) (by first | exact rfl | decide +kernel) (by first | exact rfl | kernel_rfl)) (by kernel_rfl) (fun _ e => by cases e) (by kernel_rfl))
theorem chk0_0 {a b c : Int × Int} (p : Addr) : mx_check_net [.val (told p (.non))] = some (.xc 3 (told p (.non))) := by kernel_rfl
theorem base0_1 {a b c : Int × Int} (ha : FrOk a) (hb : FrOk b) (hc : FrOk c) : Base (netD) := (base_nl (d := netD) rfl (opt_of (shK (n := 400) (d := netD) rfl (by decide +kernel)) (by first | exact rfl | decide +kernel) (by first | exact rfl | kernel_rfl)) (by kernel_rfl) (fun _ e => by cases e) (by kernel_rfl))
theorem chk0_1 {a b c : Int × Int} (p : Addr) : mx_check_net [.val (told p (netD))] = some (.xc 3 (told p (netD))) := by kernel_rfl
theorem base0_2 {a b c : Int × Int} (ha : FrOk a) (hb : FrOk b) (hc : FrOk c) : Base (.lst []) := (base_l (ys := []) (opt_of (shK (n := 400) (d := .lst []) rfl (by decide +kernel)) (by first | exact rfl | decide +kernel) (by first | exact rfl | kernel_rfl)) (by kernel_rfl) (by kernel_rfl) (by kernel_rfl) (opt_of (shK (n := 400) (d := .lst [.str "more"]) rfl (by decide +kernel)) (by first | exact rfl | decide +kernel) (by first | exact rfl | kernel_rfl)) (by kernel_rfl) (by kernel_rfl) (by kernel_rfl) (by kernel_rfl) (by kernel_rfl) (by kernel_rfl) (by kernel_rfl) (by kernel_rfl) (fun r => by kernel_rfl))
theorem chk0_2 {a b c : Int × Int} (p : Addr) : mx_check_net [.val (told p (.lst []))] = some (.xc 3 (told p (.lst []))) := by kernel_rfl
theorem base0_3 {a b c : Int × Int} (ha : FrOk a) (hb : FrOk b) (hc : FrOk c) : Base (.str "net") := (base_nl (d := .str "net") rfl (opt_of (shK (n := 400) (d := .str "net") rfl (by decide +kernel)) (by first | exact rfl | decide +kernel) (by first | exact rfl | kernel_rfl)) (by kernel_rfl) (fun _ e => by cases e) (by kernel_rfl))
theorem chk0_3 {a b c : Int × Int} (p : Addr) : mx_check_net [.val (told p (.str "net"))] = some (.xc 3 (told p (.str "net"))) := by kernel_rfl
theorem base0_4 {a b c : Int × Int} (ha : FrOk a) (hb : FrOk b) (hc : FrOk c) : Base (.int 0) := (base_nl (d := .int 0) rfl (opt_of (shK (n := 400) (d := .int 0) rfl (by decide +kernel)) (by first | exact rfl | decide +kernel) (by first | exact rfl | kernel_rfl)) (by kernel_rfl) (fun _ e => by cases e) (by kernel_rfl))
theorem chk0_4 {a b c : Int × Int} (p : Addr) : mx_check_net [.val (told p (.int 0))] = some (.xc 3 (told p (.int 0))) := by kernel_rfl
theorem base0_5 {a b c : Int × Int} (ha : FrOk a) (hb : FrOk b) (hc : FrOk c) : Base (.bl true) := (base_nl (d := .bl true) rfl (opt_of (shK (n := 400) (d := .bl true) rfl (by decide +kernel)) (by first | exact rfl | decide +kernel) (by first | exact rfl | kernel_rfl)) (by kernel_rfl) (fun _ e => by cases e) (by kernel_rfl))
theorem chk0_5 {a b c : Int × Int} (p : Addr) : mx_check_net [.val (told p (.bl true))] = some (.xc 3 (told p (.bl true))) := by kernel_rfl
theorem base0 {a b c : Int × Int} (ha : FrOk a) (hb : FrOk b) (hc : FrOk c) {d : D} (h : d ∈ oddD a b c 0) : Base d := by
  have h : d ∈ ([.non, netD, .lst [], .str "net", .int 0, .bl true] : List D) := h
  simp only [List.mem_cons, List.not_mem_nil, or_false] at h
  rcases h with rfl | rfl | rfl | rfl | rfl | rfl
  · exact base0_0 ha hb hc
  · exact base0_1 ha hb hc
  · exact base0_2 ha hb hc
  · exact base0_3 ha hb hc
  · exact base0_4 ha hb hc
  · exact base0_5 ha hb hc
theorem chk0 {a b c : Int × Int} (ha : FrOk a) (hb : FrOk b) (hc : FrOk c) {d : D} (h : d ∈ oddD a b c 0) (p : Addr) : mx_check_net [.val (told p d)] = some (.xc 3 (told p d)) := by
  have h : d ∈ ([.non, netD, .lst [], .str "net", .int 0, .bl true] : List D) := h
  simp only [List.mem_cons, List.not_mem_nil, or_false] at h
  rcases h with rfl | rfl | rfl | rfl | rfl | rfl
  · exact chk0_0 (a := a) (b := b) (c := c) p
  · exact chk0_1 (a := a) (b := b) (c := c) p
  · exact chk0_2 (a := a) (b := b) (c := c) p
  · exact chk0_3 (a := a) (b := b) (c := c) p
  · exact chk0_4 (a := a) (b := b) (c := c) p
  · exact chk0_5 (a := a) (b := b) (c := c) p
theorem base1_0 {a b c : Int × Int} (ha : FrOk a) (hb : FrOk b) (hc : FrOk c) : Base (.non) := (base_nl (d := .non) rfl (opt_of (shK (n := 400) (d := .non) rfl (by decide +kernel)) (by first | exact rfl | decide +kernel) (by first | exact rfl | kernel_rfl)) (by kernel_rfl) (fun _ e => by cases e) (by kernel_rfl))
theorem chk1_0 {a b c : Int × Int} (p : Addr) : mx_check_phases [.val madeD, .val (told p (.non))] = some (.xc 4 (told p (.non))) := by kernel_rfl
theorem base1_1 {a b c : Int × Int} (ha : FrOk a) (hb : FrOk b) (hc : FrOk c) : Base (.lst [frD a, frD b, frD c]) := (base_l (ys := [frD a, frD b, frD c]) (opt_of (shL (shC (shF ha) (shC (shF hb) (shC (shF hc) shN)))) (by first | exact rfl | decide +kernel) (by first | exact rfl | kernel_rfl)) (by kernel_rfl) (by kernel_rfl) (by kernel_rfl) (opt_of (shL (shC (shF ha) (shC (shF hb) (shC (shF hc) (shC (shK (n := 400) (d := .str "more") rfl (by decide +kernel)) shN))))) (by first | exact rfl | decide +kernel) (by first | exact rfl | kernel_rfl)) (by kernel_rfl) (by kernel_rfl) (by kernel_rfl) (by kernel_rfl) (by kernel_rfl) (by kernel_rfl) (by kernel_rfl) (by kernel_rfl) (fun r => by kernel_rfl))
theorem chk1_1 {a b c : Int × Int} (p : Addr) : mx_check_phases [.val madeD, .val (told p (.lst [frD a, frD b, frD c]))] = some (.xc 4 (told p (.lst [frD a, frD b, frD c]))) := by kernel_rfl
theorem base1_2 {a b c : Int × Int} (ha : FrOk a) (hb : FrOk b) (hc : FrOk c) : Base (.tup [frD b, frD c]) := (base_nl (d := .tup [frD b, frD c]) rfl (opt_of (shT (shC (shF hb) (shC (shF hc) shN))) (by first | exact rfl | decide +kernel) (by first | exact rfl | kernel_rfl)) (by kernel_rfl) (fun _ e => by cases e) (by kernel_rfl))
theorem chk1_2 {a b c : Int × Int} (p : Addr) : mx_check_phases [.val madeD, .val (told p (.tup [frD b, frD c]))] = some (.xc 4 (told p (.tup [frD b, frD c]))) := by kernel_rfl
theorem base1_3 {a b c : Int × Int} (ha : FrOk a) (hb : FrOk b) (hc : FrOk c) : Base (.tup [frD a, frD b, frD c, frD a]) := (base_nl (d := .tup [frD a, frD b, frD c, frD a]) rfl (opt_of (shT (shC (shF ha) (shC (shF hb) (shC (shF hc) (shC (shF ha) shN))))) (by first | exact rfl | decide +kernel) (by first | exact rfl | kernel_rfl)) (by kernel_rfl) (fun _ e => by cases e) (by kernel_rfl))
theorem chk1_3 {a b c : Int × Int} (p : Addr) : mx_check_phases [.val madeD, .val (told p (.tup [frD a, frD b, frD c, frD a]))] = some (.xc 4 (told p (.tup [frD a, frD b, frD c, frD a]))) := by kernel_rfl
theorem base1_4 {a b c : Int × Int} (ha : FrOk a) (hb : FrOk b) (hc : FrOk c) : Base (.int 0) := (base_nl (d := .int 0) rfl (opt_of (shK (n := 400) (d := .int 0) rfl (by decide +kernel)) (by first | exact rfl | decide +kernel) (by first | exact rfl | kernel_rfl)) (by kernel_rfl) (fun _ e => by cases e) (by kernel_rfl))
theorem chk1_4 {a b c : Int × Int} (p : Addr) : mx_check_phases [.val madeD, .val (told p (.int 0))] = some (.xc 4 (told p (.int 0))) := by kernel_rfl
theorem base1_5 {a b c : Int × Int} (ha : FrOk a) (hb : FrOk b) (hc : FrOk c) : Base (.tup []) := (base_nl (d := .tup []) rfl (opt_of (shK (n := 400) (d := .tup []) rfl (by decide +kernel)) (by first | exact rfl | decide +kernel) (by first | exact rfl | kernel_rfl)) (by kernel_rfl) (fun _ e => by cases e) (by kernel_rfl))
theorem chk1_5 {a b c : Int × Int} (p : Addr) : mx_check_phases [.val madeD, .val (told p (.tup []))] = some (.xc 4 (told p (.tup []))) := by kernel_rfl
theorem base1_6 {a b c : Int × Int} (ha : FrOk a) (hb : FrOk b) (hc : FrOk c) : Base (.str "0") := (base_nl (d := .str "0") rfl (opt_of (shK (n := 400) (d := .str "0") rfl (by decide +kernel)) (by first | exact rfl | decide +kernel) (by first | exact rfl | kernel_rfl)) (by kernel_rfl) (fun _ e => by cases e) (by kernel_rfl))
theorem chk1_6 {a b c : Int × Int} (p : Addr) : mx_check_phases [.val madeD, .val (told p (.str "0"))] = some (.xc 4 (told p (.str "0"))) := by kernel_rfl
theorem base1_7 {a b c : Int × Int} (ha : FrOk a) (hb : FrOk b) (hc : FrOk c) : Base (.tup [.tup [.int 0, .int 0], frD b, frD c]) := (base_nl (d := .tup [.tup [.int 0, .int 0], frD b, frD c]) rfl (opt_of (shT (shC (shK (n := 400) (d := .tup [.int 0, .int 0]) rfl (by decide +kernel)) (shC (shF hb) (shC (shF hc) shN)))) (by first | exact rfl | decide +kernel) (by first | exact rfl | kernel_rfl)) (by kernel_rfl) (fun _ e => by cases e) (by kernel_rfl))
theorem chk1_7 {a b c : Int × Int} (ha : FrOk a) (hb : FrOk b) (hc : FrOk c) (p : Addr) : mx_check_phases [.val madeD, .val (told p (.tup [.tup [.int 0, .int 0], frD b, frD c]))] = some (.xc 4 (told p (.tup [.tup [.int 0, .int 0], frD b, frD c]))) := by
  have q := frac_comp (M := .val madeD) (l := [(.tup [.int 0, .int 0], false), (frD b, true), (frD c, true)]) (fun x hx => by
    simp only [List.mem_cons, List.not_mem_nil, or_false] at hx
    rcases hx with rfl | rfl | rfl
    · exact ⟨by kernel_rfl, rfl⟩
    · exact ⟨is_fraction_eq hb.1, rfl⟩
    · exact ⟨is_fraction_eq hc.1, rfl⟩) (Nat.le_of_ble_eq_true rfl)
  exact mirX_xc (xS_nx (xIf_f rfl rfl) (xIf_t (sB_of (s2_of q rfl (show gNe (.lst [.tup [.int 0, .int 0]]) (.lst []) = some (.bl true) by kernel_rfl))) (xRaise_of rfl)))
theorem base1_8 {a b c : Int × Int} (ha : FrOk a) (hb : FrOk b) (hc : FrOk c) : Base (.tup [.tup [.int 0, .int (-1)], frD b, frD c]) := (base_nl (d := .tup [.tup [.int 0, .int (-1)], frD b, frD c]) rfl (opt_of (shT (shC (shK (n := 400) (d := .tup [.int 0, .int (-1)]) rfl (by decide +kernel)) (shC (shF hb) (shC (shF hc) shN)))) (by first | exact rfl | decide +kernel) (by first | exact rfl | kernel_rfl)) (by kernel_rfl) (fun _ e => by cases e) (by kernel_rfl))
theorem chk1_8 {a b c : Int × Int} (ha : FrOk a) (hb : FrOk b) (hc : FrOk c) (p : Addr) : mx_check_phases [.val madeD, .val (told p (.tup [.tup [.int 0, .int (-1)], frD b, frD c]))] = some (.xc 4 (told p (.tup [.tup [.int 0, .int (-1)], frD b, frD c]))) := by
  have q := frac_comp (M := .val madeD) (l := [(.tup [.int 0, .int (-1)], false), (frD b, true), (frD c, true)]) (fun x hx => by
    simp only [List.mem_cons, List.not_mem_nil, or_false] at hx
    rcases hx with rfl | rfl | rfl
    · exact ⟨by kernel_rfl, rfl⟩
    · exact ⟨is_fraction_eq hb.1, rfl⟩
    · exact ⟨is_fraction_eq hc.1, rfl⟩) (Nat.le_of_ble_eq_true rfl)
  exact mirX_xc (xS_nx (xIf_f rfl rfl) (xIf_t (sB_of (s2_of q rfl (show gNe (.lst [.tup [.int 0, .int (-1)]]) (.lst []) = some (.bl true) by kernel_rfl))) (xRaise_of rfl)))
theorem base1_9 {a b c : Int × Int} (ha : FrOk a) (hb : FrOk b) (hc : FrOk c) : Base (.tup [.int 0, frD b, frD c]) := (base_nl (d := .tup [.int 0, frD b, frD c]) rfl (opt_of (shT (shC (shK (n := 400) (d := .int 0) rfl (by decide +kernel)) (shC (shF hb) (shC (shF hc) shN)))) (by first | exact rfl | decide +kernel) (by first | exact rfl | kernel_rfl)) (by kernel_rfl) (fun _ e => by cases e) (by kernel_rfl))
theorem chk1_9 {a b c : Int × Int} (ha : FrOk a) (hb : FrOk b) (hc : FrOk c) (p : Addr) : mx_check_phases [.val madeD, .val (told p (.tup [.int 0, frD b, frD c]))] = some (.xc 4 (told p (.tup [.int 0, frD b, frD c]))) := by
  have q := frac_comp (M := .val madeD) (l := [(.int 0, false), (frD b, true), (frD c, true)]) (fun x hx => by
    simp only [List.mem_cons, List.not_mem_nil, or_false] at hx
    rcases hx with rfl | rfl | rfl
    · exact ⟨by kernel_rfl, rfl⟩
    · exact ⟨is_fraction_eq hb.1, rfl⟩
    · exact ⟨is_fraction_eq hc.1, rfl⟩) (Nat.le_of_ble_eq_true rfl)
  exact mirX_xc (xS_nx (xIf_f rfl rfl) (xIf_t (sB_of (s2_of q rfl (show gNe (.lst [.int 0]) (.lst []) = some (.bl true) by kernel_rfl))) (xRaise_of rfl)))
theorem base1_10 {a b c : Int × Int} (ha : FrOk a) (hb : FrOk b) (hc : FrOk c) : Base (.tup [.tup [.int 0, .int 1, .int 1], frD b, frD c]) := (base_nl (d := .tup [.tup [.int 0, .int 1, .int 1], frD b, frD c]) rfl (opt_of (shT (shC (shK (n := 400) (d := .tup [.int 0, .int 1, .int 1]) rfl (by decide +kernel)) (shC (shF hb) (shC (shF hc) shN)))) (by first | exact rfl | decide +kernel) (by first | exact rfl | kernel_rfl)) (by kernel_rfl) (fun _ e => by cases e) (by kernel_rfl))
theorem chk1_10 {a b c : Int × Int} (ha : FrOk a) (hb : FrOk b) (hc : FrOk c) (p : Addr) : mx_check_phases [.val madeD, .val (told p (.tup [.tup [.int 0, .int 1, .int 1], frD b, frD c]))] = some (.xc 4 (told p (.tup [.tup [.int 0, .int 1, .int 1], frD b, frD c]))) := by
  have q := frac_comp (M := .val madeD) (l := [(.tup [.int 0, .int 1, .int 1], false), (frD b, true), (frD c, true)]) (fun x hx => by
    simp only [List.mem_cons, List.not_mem_nil, or_false] at hx
    rcases hx with rfl | rfl | rfl
    · exact ⟨by kernel_rfl, rfl⟩
    · exact ⟨is_fraction_eq hb.1, rfl⟩
    · exact ⟨is_fraction_eq hc.1, rfl⟩) (Nat.le_of_ble_eq_true rfl)
  exact mirX_xc (xS_nx (xIf_f rfl rfl) (xIf_t (sB_of (s2_of q rfl (show gNe (.lst [.tup [.int 0, .int 1, .int 1]]) (.lst []) = some (.bl true) by kernel_rfl))) (xRaise_of rfl)))
theorem base1_11 {a b c : Int × Int} (ha : FrOk a) (hb : FrOk b) (hc : FrOk c) : Base (.tup [.lst [.int 0, .int 1], frD b, frD c]) := (base_nl (d := .tup [.lst [.int 0, .int 1], frD b, frD c]) rfl (opt_of (shT (shC (shK (n := 400) (d := .lst [.int 0, .int 1]) rfl (by decide +kernel)) (shC (shF hb) (shC (shF hc) shN)))) (by first | exact rfl | decide +kernel) (by first | exact rfl | kernel_rfl)) (by kernel_rfl) (fun _ e => by cases e) (by kernel_rfl))
theorem chk1_11 {a b c : Int × Int} (ha : FrOk a) (hb : FrOk b) (hc : FrOk c) (p : Addr) : mx_check_phases [.val madeD, .val (told p (.tup [.lst [.int 0, .int 1], frD b, frD c]))] = some (.xc 4 (told p (.tup [.lst [.int 0, .int 1], frD b, frD c]))) := by
  have q := frac_comp (M := .val madeD) (l := [(.lst [.int 0, .int 1], false), (frD b, true), (frD c, true)]) (fun x hx => by
    simp only [List.mem_cons, List.not_mem_nil, or_false] at hx
    rcases hx with rfl | rfl | rfl
    · exact ⟨by kernel_rfl, rfl⟩
    · exact ⟨is_fraction_eq hb.1, rfl⟩
    · exact ⟨is_fraction_eq hc.1, rfl⟩) (Nat.le_of_ble_eq_true rfl)
  exact mirX_xc (xS_nx (xIf_f rfl rfl) (xIf_t (sB_of (s2_of q rfl (show gNe (.lst [.lst [.int 0, .int 1]]) (.lst []) = some (.bl true) by kernel_rfl))) (xRaise_of rfl)))
theorem base1_12 {a b c : Int × Int} (ha : FrOk a) (hb : FrOk b) (hc : FrOk c) : Base (.tup [frD a, frD b, .tup [.bl true, .int 1]]) := (base_nl (d := .tup [frD a, frD b, .tup [.bl true, .int 1]]) rfl (opt_of (shT (shC (shF ha) (shC (shF hb) (shC (shK (n := 400) (d := .tup [.bl true, .int 1]) rfl (by decide +kernel)) shN)))) (by first | exact rfl | decide +kernel) (by first | exact rfl | kernel_rfl)) (by kernel_rfl) (fun _ e => by cases e) (by kernel_rfl))
theorem chk1_12 {a b c : Int × Int} (ha : FrOk a) (hb : FrOk b) (hc : FrOk c) (p : Addr) : mx_check_phases [.val madeD, .val (told p (.tup [frD a, frD b, .tup [.bl true, .int 1]]))] = some (.xc 4 (told p (.tup [frD a, frD b, .tup [.bl true, .int 1]]))) := by
  have q := frac_comp (M := .val madeD) (l := [(frD a, true), (frD b, true), (.tup [.bl true, .int 1], false)]) (fun x hx => by
    simp only [List.mem_cons, List.not_mem_nil, or_false] at hx
    rcases hx with rfl | rfl | rfl
    · exact ⟨is_fraction_eq ha.1, rfl⟩
    · exact ⟨is_fraction_eq hb.1, rfl⟩
    · exact ⟨by kernel_rfl, rfl⟩) (Nat.le_of_ble_eq_true rfl)
  exact mirX_xc (xS_nx (xIf_f rfl rfl) (xIf_t (sB_of (s2_of q rfl (show gNe (.lst [.tup [.bl true, .int 1]]) (.lst []) = some (.bl true) by kernel_rfl))) (xRaise_of rfl)))
theorem base1_13 {a b c : Int × Int} (ha : FrOk a) (hb : FrOk b) (hc : FrOk c) : Base (.tup [frD a, frD b, .tup [.int 0, .bl true]]) := (base_nl (d := .tup [frD a, frD b, .tup [.int 0, .bl true]]) rfl (opt_of (shT (shC (shF ha) (shC (shF hb) (shC (shK (n := 400) (d := .tup [.int 0, .bl true]) rfl (by decide +kernel)) shN)))) (by first | exact rfl | decide +kernel) (by first | exact rfl | kernel_rfl)) (by kernel_rfl) (fun _ e => by cases e) (by kernel_rfl))
theorem chk1_13 {a b c : Int × Int} (ha : FrOk a) (hb : FrOk b) (hc : FrOk c) (p : Addr) : mx_check_phases [.val madeD, .val (told p (.tup [frD a, frD b, .tup [.int 0, .bl true]]))] = some (.xc 4 (told p (.tup [frD a, frD b, .tup [.int 0, .bl true]]))) := by
  have q := frac_comp (M := .val madeD) (l := [(frD a, true), (frD b, true), (.tup [.int 0, .bl true], false)]) (fun x hx => by
    simp only [List.mem_cons, List.not_mem_nil, or_false] at hx
    rcases hx with rfl | rfl | rfl
    · exact ⟨is_fraction_eq ha.1, rfl⟩
    · exact ⟨is_fraction_eq hb.1, rfl⟩
    · exact ⟨by kernel_rfl, rfl⟩) (Nat.le_of_ble_eq_true rfl)
  exact mirX_xc (xS_nx (xIf_f rfl rfl) (xIf_t (sB_of (s2_of q rfl (show gNe (.lst [.tup [.int 0, .bl true]]) (.lst []) = some (.bl true) by kernel_rfl))) (xRaise_of rfl)))
theorem base1_14 {a b c : Int × Int} (ha : FrOk a) (hb : FrOk b) (hc : FrOk c) : Base (.tup [frD a, frD b, .non]) := (base_nl (d := .tup [frD a, frD b, .non]) rfl (opt_of (shT (shC (shF ha) (shC (shF hb) (shC (shK (n := 400) (d := .non) rfl (by decide +kernel)) shN)))) (by first | exact rfl | decide +kernel) (by first | exact rfl | kernel_rfl)) (by kernel_rfl) (fun _ e => by cases e) (by kernel_rfl))
theorem chk1_14 {a b c : Int × Int} (ha : FrOk a) (hb : FrOk b) (hc : FrOk c) (p : Addr) : mx_check_phases [.val madeD, .val (told p (.tup [frD a, frD b, .non]))] = some (.xc 4 (told p (.tup [frD a, frD b, .non]))) := by
  have q := frac_comp (M := .val madeD) (l := [(frD a, true), (frD b, true), (.non, false)]) (fun x hx => by
    simp only [List.mem_cons, List.not_mem_nil, or_false] at hx
    rcases hx with rfl | rfl | rfl
    · exact ⟨is_fraction_eq ha.1, rfl⟩
    · exact ⟨is_fraction_eq hb.1, rfl⟩
    · exact ⟨by kernel_rfl, rfl⟩) (Nat.le_of_ble_eq_true rfl)
  exact mirX_xc (xS_nx (xIf_f rfl rfl) (xIf_t (sB_of (s2_of q rfl (show gNe (.lst [.non]) (.lst []) = some (.bl true) by kernel_rfl))) (xRaise_of rfl)))
theorem base1 {a b c : Int × Int} (ha : FrOk a) (hb : FrOk b) (hc : FrOk c) {d : D} (h : d ∈ oddD a b c 1) : Base d := by
  have h : d ∈ ([.non, .lst [frD a, frD b, frD c], .tup [frD b, frD c], .tup [frD a, frD b, frD c, frD a], .int 0, .tup [], .str "0", .tup [.tup [.int 0, .int 0], frD b, frD c], .tup [.tup [.int 0, .int (-1)], frD b, frD c], .tup [.int 0, frD b, frD c], .tup [.tup [.int 0, .int 1, .int 1], frD b, frD c], .tup [.lst [.int 0, .int 1], frD b, frD c], .tup [frD a, frD b, .tup [.bl true, .int 1]], .tup [frD a, frD b, .tup [.int 0, .bl true]], .tup [frD a, frD b, .non]] : List D) := h
  simp only [List.mem_cons, List.not_mem_nil, or_false] at h
  rcases h with rfl | rfl | rfl | rfl | rfl | rfl | rfl | rfl | rfl | rfl | rfl | rfl | rfl | rfl | rfl
  · exact base1_0 ha hb hc
  · exact base1_1 ha hb hc
  · exact base1_2 ha hb hc
  · exact base1_3 ha hb hc
  · exact base1_4 ha hb hc
  · exact base1_5 ha hb hc
  · exact base1_6 ha hb hc
  · exact base1_7 ha hb hc
  · exact base1_8 ha hb hc
  · exact base1_9 ha hb hc
  · exact base1_10 ha hb hc
  · exact base1_11 ha hb hc
  · exact base1_12 ha hb hc
  · exact base1_13 ha hb hc
  · exact base1_14 ha hb hc
theorem chk1 {a b c : Int × Int} (ha : FrOk a) (hb : FrOk b) (hc : FrOk c) {d : D} (h : d ∈ oddD a b c 1) (p : Addr) : mx_check_phases [.val madeD, .val (told p d)] = some (.xc 4 (told p d)) := by
  have h : d ∈ ([.non, .lst [frD a, frD b, frD c], .tup [frD b, frD c], .tup [frD a, frD b, frD c, frD a], .int 0, .tup [], .str "0", .tup [.tup [.int 0, .int 0], frD b, frD c], .tup [.tup [.int 0, .int (-1)], frD b, frD c], .tup [.int 0, frD b, frD c], .tup [.tup [.int 0, .int 1, .int 1], frD b, frD c], .tup [.lst [.int 0, .int 1], frD b, frD c], .tup [frD a, frD b, .tup [.bl true, .int 1]], .tup [frD a, frD b, .tup [.int 0, .bl true]], .tup [frD a, frD b, .non]] : List D) := h
  simp only [List.mem_cons, List.not_mem_nil, or_false] at h
  rcases h with rfl | rfl | rfl | rfl | rfl | rfl | rfl | rfl | rfl | rfl | rfl | rfl | rfl | rfl | rfl
  · exact chk1_0 (a := a) (b := b) (c := c) p
  · exact chk1_1 (a := a) (b := b) (c := c) p
  · exact chk1_2 (a := a) (b := b) (c := c) p
  · exact chk1_3 (a := a) (b := b) (c := c) p
  · exact chk1_4 (a := a) (b := b) (c := c) p
  · exact chk1_5 (a := a) (b := b) (c := c) p
  · exact chk1_6 (a := a) (b := b) (c := c) p
  · exact chk1_7 ha hb hc p
  · exact chk1_8 ha hb hc p
  · exact chk1_9 ha hb hc p
  · exact chk1_10 ha hb hc p
  · exact chk1_11 ha hb hc p
  · exact chk1_12 ha hb hc p
  · exact chk1_13 ha hb hc p
  · exact chk1_14 ha hb hc p
theorem base2_0 {a b c : Int × Int} (ha : FrOk a) (hb : FrOk b) (hc : FrOk c) : Base (.non) := (base_nl (d := .non) rfl (opt_of (shK (n := 400) (d := .non) rfl (by decide +kernel)) (by first | exact rfl | decide +kernel) (by first | exact rfl | kernel_rfl)) (by kernel_rfl) (fun _ e => by cases e) (by kernel_rfl))
theorem chk2_0 {a b c : Int × Int} (p : Addr) : mx_check_name [.val madeD, .val (told p (.non))] = some (.xc 6 (told p (.non))) := by kernel_rfl
theorem nw_0 (p : Addr) (x1 x4 : D) : nwT [.val madeD, .val x1, .val (.str "c"), .val (told p (.non)), .val x4, .no, .no] = some (true, [.val madeD, .val x1, .val (.str "c"), .val (told p (.non)), .val x4, .no, .no]) := by kernel_rfl
theorem base2_1 {a b c : Int × Int} (ha : FrOk a) (hb : FrOk b) (hc : FrOk c) : Base (.int 0) := (base_nl (d := .int 0) rfl (opt_of (shK (n := 400) (d := .int 0) rfl (by decide +kernel)) (by first | exact rfl | decide +kernel) (by first | exact rfl | kernel_rfl)) (by kernel_rfl) (fun _ e => by cases e) (by kernel_rfl))
theorem chk2_1 {a b c : Int × Int} (p : Addr) : mx_check_name [.val madeD, .val (told p (.int 0))] = some (.xc 6 (told p (.int 0))) := by kernel_rfl
theorem nw_1 (p : Addr) (x1 x4 : D) : nwT [.val madeD, .val x1, .val (.str "c"), .val (told p (.int 0)), .val x4, .no, .no] = some (true, [.val madeD, .val x1, .val (.str "c"), .val (told p (.int 0)), .val x4, .no, .no]) := by kernel_rfl
theorem base2_2 {a b c : Int × Int} (ha : FrOk a) (hb : FrOk b) (hc : FrOk c) : Base (.str "nobody") := (base_nl (d := .str "nobody") rfl (opt_of (shK (n := 400) (d := .str "nobody") rfl (by decide +kernel)) (by first | exact rfl | decide +kernel) (by first | exact rfl | kernel_rfl)) (by kernel_rfl) (fun _ e => by cases e) (by kernel_rfl))
theorem chk2_2 {a b c : Int × Int} (p : Addr) : mx_check_name [.val madeD, .val (told p (.str "nobody"))] = some (.xc 6 (told p (.str "nobody"))) := by kernel_rfl
theorem nw_2 (p : Addr) (x1 x4 : D) : nwT [.val madeD, .val x1, .val (.str "c"), .val (told p (.str "nobody")), .val x4, .no, .no] = some (true, [.val madeD, .val x1, .val (.str "c"), .val (told p (.str "nobody")), .val x4, .no, .no]) := by kernel_rfl
theorem base2_3 {a b c : Int × Int} (ha : FrOk a) (hb : FrOk b) (hc : FrOk c) : Base (.str "") := (base_nl (d := .str "") rfl (opt_of (shK (n := 400) (d := .str "") rfl (by decide +kernel)) (by first | exact rfl | decide +kernel) (by first | exact rfl | kernel_rfl)) (by kernel_rfl) (fun _ e => by cases e) (by kernel_rfl))
theorem chk2_3 {a b c : Int × Int} (p : Addr) : mx_check_name [.val madeD, .val (told p (.str ""))] = some (.xc 6 (told p (.str ""))) := by kernel_rfl
theorem nw_3 (p : Addr) (x1 x4 : D) : nwT [.val madeD, .val x1, .val (.str "c"), .val (told p (.str "")), .val x4, .no, .no] = some (true, [.val madeD, .val x1, .val (.str "c"), .val (told p (.str "")), .val x4, .no, .no]) := by kernel_rfl
theorem base2_4 {a b c : Int × Int} (ha : FrOk a) (hb : FrOk b) (hc : FrOk c) : Base (.lst [.str "a"]) := (base_l (ys := [.str "a"]) (opt_of (shK (n := 400) (d := .lst [.str "a"]) rfl (by decide +kernel)) (by first | exact rfl | decide +kernel) (by first | exact rfl | kernel_rfl)) (by kernel_rfl) (by kernel_rfl) (by kernel_rfl) (opt_of (shK (n := 400) (d := .lst [.str "a", .str "more"]) rfl (by decide +kernel)) (by first | exact rfl | decide +kernel) (by first | exact rfl | kernel_rfl)) (by kernel_rfl) (by kernel_rfl) (by kernel_rfl) (by kernel_rfl) (by kernel_rfl) (by kernel_rfl) (by kernel_rfl) (by kernel_rfl) (fun r => by kernel_rfl))
theorem chk2_4 {a b c : Int × Int} (p : Addr) : mx_check_name [.val madeD, .val (told p (.lst [.str "a"]))] = some (.xc 6 (told p (.lst [.str "a"]))) := by kernel_rfl
theorem nw_4 (p : Addr) (x1 x4 : D) : nwT [.val madeD, .val x1, .val (.str "c"), .val (told p (.lst [.str "a"])), .val x4, .no, .no] = some (true, [.val madeD, .val x1, .val (.str "c"), .val (told p (.lst [.str "a"])), .val x4, .no, .no]) := by kernel_rfl
theorem base2_5 {a b c : Int × Int} (ha : FrOk a) (hb : FrOk b) (hc : FrOk c) : Base (.bl true) := (base_nl (d := .bl true) rfl (opt_of (shK (n := 400) (d := .bl true) rfl (by decide +kernel)) (by first | exact rfl | decide +kernel) (by first | exact rfl | kernel_rfl)) (by kernel_rfl) (fun _ e => by cases e) (by kernel_rfl))
theorem chk2_5 {a b c : Int × Int} (p : Addr) : mx_check_name [.val madeD, .val (told p (.bl true))] = some (.xc 6 (told p (.bl true))) := by kernel_rfl
theorem nw_5 (p : Addr) (x1 x4 : D) : nwT [.val madeD, .val x1, .val (.str "c"), .val (told p (.bl true)), .val x4, .no, .no] = some (true, [.val madeD, .val x1, .val (.str "c"), .val (told p (.bl true)), .val x4, .no, .no]) := by kernel_rfl
theorem base2_6 {a b c : Int × Int} (ha : FrOk a) (hb : FrOk b) (hc : FrOk c) : Base (.tup [.str "a"]) := (base_nl (d := .tup [.str "a"]) rfl (opt_of (shK (n := 400) (d := .tup [.str "a"]) rfl (by decide +kernel)) (by first | exact rfl | decide +kernel) (by first | exact rfl | kernel_rfl)) (by kernel_rfl) (fun _ e => by cases e) (by kernel_rfl))
theorem chk2_6 {a b c : Int × Int} (p : Addr) : mx_check_name [.val madeD, .val (told p (.tup [.str "a"]))] = some (.xc 6 (told p (.tup [.str "a"]))) := by kernel_rfl
theorem nw_6 (p : Addr) (x1 x4 : D) : nwT [.val madeD, .val x1, .val (.str "c"), .val (told p (.tup [.str "a"])), .val x4, .no, .no] = some (true, [.val madeD, .val x1, .val (.str "c"), .val (told p (.tup [.str "a"])), .val x4, .no, .no]) := by kernel_rfl
theorem base2_7 {a b c : Int × Int} (ha : FrOk a) (hb : FrOk b) (hc : FrOk c) : Base (netD) := (base_nl (d := netD) rfl (opt_of (shK (n := 400) (d := netD) rfl (by decide +kernel)) (by first | exact rfl | decide +kernel) (by first | exact rfl | kernel_rfl)) (by kernel_rfl) (fun _ e => by cases e) (by kernel_rfl))
theorem chk2_7 {a b c : Int × Int} (p : Addr) : mx_check_name [.val madeD, .val (told p (netD))] = some (.xc 6 (told p (netD))) := by kernel_rfl
theorem nw_7 (p : Addr) (x1 x4 : D) : nwT [.val madeD, .val x1, .val (.str "c"), .val (told p (netD)), .val x4, .no, .no] = some (true, [.val madeD, .val x1, .val (.str "c"), .val (told p (netD)), .val x4, .no, .no]) := by kernel_rfl
theorem base2 {a b c : Int × Int} (ha : FrOk a) (hb : FrOk b) (hc : FrOk c) {d : D} (h : d ∈ oddD a b c 2) : Base d := by
  have h : d ∈ ([.non, .int 0, .str "nobody", .str "", .lst [.str "a"], .bl true, .tup [.str "a"], netD] : List D) := h
  simp only [List.mem_cons, List.not_mem_nil, or_false] at h
  rcases h with rfl | rfl | rfl | rfl | rfl | rfl | rfl | rfl
  · exact base2_0 ha hb hc
  · exact base2_1 ha hb hc
  · exact base2_2 ha hb hc
  · exact base2_3 ha hb hc
  · exact base2_4 ha hb hc
  · exact base2_5 ha hb hc
  · exact base2_6 ha hb hc
  · exact base2_7 ha hb hc
theorem chk2 {a b c : Int × Int} (ha : FrOk a) (hb : FrOk b) (hc : FrOk c) {d : D} (h : d ∈ oddD a b c 2) (p : Addr) : mx_check_name [.val madeD, .val (told p d)] = some (.xc 6 (told p d)) := by
  have h : d ∈ ([.non, .int 0, .str "nobody", .str "", .lst [.str "a"], .bl true, .tup [.str "a"], netD] : List D) := h
  simp only [List.mem_cons, List.not_mem_nil, or_false] at h
  rcases h with rfl | rfl | rfl | rfl | rfl | rfl | rfl | rfl
  · exact chk2_0 (a := a) (b := b) (c := c) p
  · exact chk2_1 (a := a) (b := b) (c := c) p
  · exact chk2_2 (a := a) (b := b) (c := c) p
  · exact chk2_3 (a := a) (b := b) (c := c) p
  · exact chk2_4 (a := a) (b := b) (c := c) p
  · exact chk2_5 (a := a) (b := b) (c := c) p
  · exact chk2_6 (a := a) (b := b) (c := c) p
  · exact chk2_7 (a := a) (b := b) (c := c) p
theorem nw {a b c : Int × Int} (ha : FrOk a) (hb : FrOk b) (hc : FrOk c) {d : D} (h : d ∈ oddD a b c 2) (p : Addr) (x1 x4 : D) : nwT [.val madeD, .val x1, .val (.str "c"), .val (told p d), .val x4, .no, .no] = some (true, [.val madeD, .val x1, .val (.str "c"), .val (told p d), .val x4, .no, .no]) := by
  have h : d ∈ ([.non, .int 0, .str "nobody", .str "", .lst [.str "a"], .bl true, .tup [.str "a"], netD] : List D) := h
  simp only [List.mem_cons, List.not_mem_nil, or_false] at h
  rcases h with rfl | rfl | rfl | rfl | rfl | rfl | rfl | rfl
  · exact nw_0 p x1 x4
  · exact nw_1 p x1 x4
  · exact nw_2 p x1 x4
  · exact nw_3 p x1 x4
  · exact nw_4 p x1 x4
  · exact nw_5 p x1 x4
  · exact nw_6 p x1 x4
  · exact nw_7 p x1 x4
theorem base3_0 {a b c : Int × Int} (ha : FrOk a) (hb : FrOk b) (hc : FrOk c) : Base (.non) := (base_nl (d := .non) rfl (opt_of (shK (n := 400) (d := .non) rfl (by decide +kernel)) (by first | exact rfl | decide +kernel) (by first | exact rfl | kernel_rfl)) (by kernel_rfl) (fun _ e => by cases e) (by kernel_rfl))
theorem chk3_0 {a b c : Int × Int} (p : Addr) : mx_check_path [.val madeD, .val (told p (.non))] = some (.xc 5 (told p (.non))) := by kernel_rfl
theorem base3_1 {a b c : Int × Int} (ha : FrOk a) (hb : FrOk b) (hc : FrOk c) : Base (.lst []) := (base_l (ys := []) (opt_of (shK (n := 400) (d := .lst []) rfl (by decide +kernel)) (by first | exact rfl | decide +kernel) (by first | exact rfl | kernel_rfl)) (by kernel_rfl) (by kernel_rfl) (by kernel_rfl) (opt_of (shK (n := 400) (d := .lst [.str "more"]) rfl (by decide +kernel)) (by first | exact rfl | decide +kernel) (by first | exact rfl | kernel_rfl)) (by kernel_rfl) (by kernel_rfl) (by kernel_rfl) (by kernel_rfl) (by kernel_rfl) (by kernel_rfl) (by kernel_rfl) (by kernel_rfl) (fun r => by kernel_rfl))
theorem chk3_1 {a b c : Int × Int} (p : Addr) : mx_check_path [.val madeD, .val (told p (.lst []))] = some (.xc 5 (told p (.lst []))) := by kernel_rfl
theorem base3_2 {a b c : Int × Int} (ha : FrOk a) (hb : FrOk b) (hc : FrOk c) : Base (.tup [.str "a", .str "b", .str "c", .str "c"]) := (base_nl (d := .tup [.str "a", .str "b", .str "c", .str "c"]) rfl (opt_of (shK (n := 400) (d := .tup [.str "a", .str "b", .str "c", .str "c"]) rfl (by decide +kernel)) (by first | exact rfl | decide +kernel) (by first | exact rfl | kernel_rfl)) (by kernel_rfl) (fun _ e => by cases e) (by kernel_rfl))
theorem chk3_2 {a b c : Int × Int} (p : Addr) : mx_check_path [.val madeD, .val (told p (.tup [.str "a", .str "b", .str "c", .str "c"]))] = some (.xc 5 (told p (.tup [.str "a", .str "b", .str "c", .str "c"]))) := by kernel_rfl
theorem base3_3 {a b c : Int × Int} (ha : FrOk a) (hb : FrOk b) (hc : FrOk c) : Base (.str "a") := (base_nl (d := .str "a") rfl (opt_of (shK (n := 400) (d := .str "a") rfl (by decide +kernel)) (by first | exact rfl | decide +kernel) (by first | exact rfl | kernel_rfl)) (by kernel_rfl) (fun _ e => by cases e) (by kernel_rfl))
theorem chk3_3 {a b c : Int × Int} (p : Addr) : mx_check_path [.val madeD, .val (told p (.str "a"))] = some (.xc 5 (told p (.str "a"))) := by kernel_rfl
theorem base3_4 {a b c : Int × Int} (ha : FrOk a) (hb : FrOk b) (hc : FrOk c) : Base (.lst [.str "nobody"]) := (base_l (ys := [.str "nobody"]) (opt_of (shK (n := 400) (d := .lst [.str "nobody"]) rfl (by decide +kernel)) (by first | exact rfl | decide +kernel) (by first | exact rfl | kernel_rfl)) (by kernel_rfl) (by kernel_rfl) (by kernel_rfl) (opt_of (shK (n := 400) (d := .lst [.str "nobody", .str "more"]) rfl (by decide +kernel)) (by first | exact rfl | decide +kernel) (by first | exact rfl | kernel_rfl)) (by kernel_rfl) (by kernel_rfl) (by kernel_rfl) (by kernel_rfl) (by kernel_rfl) (by kernel_rfl) (by kernel_rfl) (by kernel_rfl) (fun r => by kernel_rfl))
theorem chk3_4 {a b c : Int × Int} (p : Addr) : mx_check_path [.val madeD, .val (told p (.lst [.str "nobody"]))] = some (.xc 5 (told p (.lst [.str "nobody"]))) := by kernel_rfl
theorem base3_5 {a b c : Int × Int} (ha : FrOk a) (hb : FrOk b) (hc : FrOk c) : Base (.lst [.str "a", .str "b", .str "c", .str "c", .str "nobody"]) := (base_l (ys := [.str "a", .str "b", .str "c", .str "c", .str "nobody"]) (opt_of (shK (n := 400) (d := .lst [.str "a", .str "b", .str "c", .str "c", .str "nobody"]) rfl (by decide +kernel)) (by first | exact rfl | decide +kernel) (by first | exact rfl | kernel_rfl)) (by kernel_rfl) (by kernel_rfl) (by kernel_rfl) (opt_of (shK (n := 400) (d := .lst [.str "a", .str "b", .str "c", .str "c", .str "nobody", .str "more"]) rfl (by decide +kernel)) (by first | exact rfl | decide +kernel) (by first | exact rfl | kernel_rfl)) (by kernel_rfl) (by kernel_rfl) (by kernel_rfl) (by kernel_rfl) (by kernel_rfl) (by kernel_rfl) (by kernel_rfl) (by kernel_rfl) (fun r => by kernel_rfl))
theorem chk3_5 {a b c : Int × Int} (p : Addr) : mx_check_path [.val madeD, .val (told p (.lst [.str "a", .str "b", .str "c", .str "c", .str "nobody"]))] = some (.xc 5 (told p (.lst [.str "a", .str "b", .str "c", .str "c", .str "nobody"]))) := by kernel_rfl
theorem base3_6 {a b c : Int × Int} (ha : FrOk a) (hb : FrOk b) (hc : FrOk c) : Base (.lst [.non, .str "a", .str "b", .str "c", .str "c"]) := (base_l (ys := [.non, .str "a", .str "b", .str "c", .str "c"]) (opt_of (shK (n := 400) (d := .lst [.non, .str "a", .str "b", .str "c", .str "c"]) rfl (by decide +kernel)) (by first | exact rfl | decide +kernel) (by first | exact rfl | kernel_rfl)) (by kernel_rfl) (by kernel_rfl) (by kernel_rfl) (opt_of (shK (n := 400) (d := .lst [.non, .str "a", .str "b", .str "c", .str "c", .str "more"]) rfl (by decide +kernel)) (by first | exact rfl | decide +kernel) (by first | exact rfl | kernel_rfl)) (by kernel_rfl) (by kernel_rfl) (by kernel_rfl) (by kernel_rfl) (by kernel_rfl) (by kernel_rfl) (by kernel_rfl) (by kernel_rfl) (fun r => by kernel_rfl))
theorem chk3_6 {a b c : Int × Int} (p : Addr) : mx_check_path [.val madeD, .val (told p (.lst [.non, .str "a", .str "b", .str "c", .str "c"]))] = some (.xc 5 (told p (.lst [.non, .str "a", .str "b", .str "c", .str "c"]))) := by kernel_rfl
theorem base3_7 {a b c : Int × Int} (ha : FrOk a) (hb : FrOk b) (hc : FrOk c) : Base (.dct false [] []) := (base_nl (d := .dct false [] []) rfl (opt_of (shK (n := 400) (d := .dct false [] []) rfl (by decide +kernel)) (by first | exact rfl | decide +kernel) (by first | exact rfl | kernel_rfl)) (by kernel_rfl) (fun _ e => by cases e) (by kernel_rfl))
theorem chk3_7 {a b c : Int × Int} (p : Addr) : mx_check_path [.val madeD, .val (told p (.dct false [] []))] = some (.xc 5 (told p (.dct false [] []))) := by kernel_rfl
theorem base3_8 {a b c : Int × Int} (ha : FrOk a) (hb : FrOk b) (hc : FrOk c) : Base (.lst [.lst [.str "a", .str "b", .str "c", .str "c"]]) := (base_l (ys := [.lst [.str "a", .str "b", .str "c", .str "c"]]) (opt_of (shK (n := 400) (d := .lst [.lst [.str "a", .str "b", .str "c", .str "c"]]) rfl (by decide +kernel)) (by first | exact rfl | decide +kernel) (by first | exact rfl | kernel_rfl)) (by kernel_rfl) (by kernel_rfl) (by kernel_rfl) (opt_of (shK (n := 400) (d := .lst [.lst [.str "a", .str "b", .str "c", .str "c"], .str "more"]) rfl (by decide +kernel)) (by first | exact rfl | decide +kernel) (by first | exact rfl | kernel_rfl)) (by kernel_rfl) (by kernel_rfl) (by kernel_rfl) (by kernel_rfl) (by kernel_rfl) (by kernel_rfl) (by kernel_rfl) (by kernel_rfl) (fun r => by kernel_rfl))
theorem chk3_8 {a b c : Int × Int} (p : Addr) : mx_check_path [.val madeD, .val (told p (.lst [.lst [.str "a", .str "b", .str "c", .str "c"]]))] = some (.xc 5 (told p (.lst [.lst [.str "a", .str "b", .str "c", .str "c"]]))) := by kernel_rfl
theorem base3_9 {a b c : Int × Int} (ha : FrOk a) (hb : FrOk b) (hc : FrOk c) : Base (.lst [.str "zq", .str "zq"]) := (base_l (ys := [.str "zq", .str "zq"]) (opt_of (shK (n := 400) (d := .lst [.str "zq", .str "zq"]) rfl (by decide +kernel)) (by first | exact rfl | decide +kernel) (by first | exact rfl | kernel_rfl)) (by kernel_rfl) (by kernel_rfl) (by kernel_rfl) (opt_of (shK (n := 400) (d := .lst [.str "zq", .str "zq", .str "more"]) rfl (by decide +kernel)) (by first | exact rfl | decide +kernel) (by first | exact rfl | kernel_rfl)) (by kernel_rfl) (by kernel_rfl) (by kernel_rfl) (by kernel_rfl) (by kernel_rfl) (by kernel_rfl) (by kernel_rfl) (by kernel_rfl) (fun r => by kernel_rfl))
theorem chk3_9 {a b c : Int × Int} (p : Addr) : mx_check_path [.val madeD, .val (told p (.lst [.str "zq", .str "zq"]))] = some (.xc 5 (told p (.lst [.str "zq", .str "zq"]))) := by kernel_rfl
theorem base3 {a b c : Int × Int} (ha : FrOk a) (hb : FrOk b) (hc : FrOk c) {d : D} (h : d ∈ oddD a b c 3) : Base d := by
  have h : d ∈ ([.non, .lst [], .tup [.str "a", .str "b", .str "c", .str "c"], .str "a", .lst [.str "nobody"], .lst [.str "a", .str "b", .str "c", .str "c", .str "nobody"], .lst [.non, .str "a", .str "b", .str "c", .str "c"], .dct false [] [], .lst [.lst [.str "a", .str "b", .str "c", .str "c"]], .lst [.str "zq", .str "zq"]] : List D) := h
  simp only [List.mem_cons, List.not_mem_nil, or_false] at h
  rcases h with rfl | rfl | rfl | rfl | rfl | rfl | rfl | rfl | rfl | rfl
  · exact base3_0 ha hb hc
  · exact base3_1 ha hb hc
  · exact base3_2 ha hb hc
  · exact base3_3 ha hb hc
  · exact base3_4 ha hb hc
  · exact base3_5 ha hb hc
  · exact base3_6 ha hb hc
  · exact base3_7 ha hb hc
  · exact base3_8 ha hb hc
  · exact base3_9 ha hb hc
theorem chk3 {a b c : Int × Int} (ha : FrOk a) (hb : FrOk b) (hc : FrOk c) {d : D} (h : d ∈ oddD a b c 3) (p : Addr) : mx_check_path [.val madeD, .val (told p d)] = some (.xc 5 (told p d)) := by
  have h : d ∈ ([.non, .lst [], .tup [.str "a", .str "b", .str "c", .str "c"], .str "a", .lst [.str "nobody"], .lst [.str "a", .str "b", .str "c", .str "c", .str "nobody"], .lst [.non, .str "a", .str "b", .str "c", .str "c"], .dct false [] [], .lst [.lst [.str "a", .str "b", .str "c", .str "c"]], .lst [.str "zq", .str "zq"]] : List D) := h
  simp only [List.mem_cons, List.not_mem_nil, or_false] at h
  rcases h with rfl | rfl | rfl | rfl | rfl | rfl | rfl | rfl | rfl | rfl
  · exact chk3_0 (a := a) (b := b) (c := c) p
  · exact chk3_1 (a := a) (b := b) (c := c) p
  · exact chk3_2 (a := a) (b := b) (c := c) p
  · exact chk3_3 (a := a) (b := b) (c := c) p
  · exact chk3_4 (a := a) (b := b) (c := c) p
  · exact chk3_5 (a := a) (b := b) (c := c) p
  · exact chk3_6 (a := a) (b := b) (c := c) p
  · exact chk3_7 (a := a) (b := b) (c := c) p
  · exact chk3_8 (a := a) (b := b) (c := c) p
  · exact chk3_9 (a := a) (b := b) (c := c) p
theorem base4_0 {a b c : Int × Int} (ha : FrOk a) (hb : FrOk b) (hc : FrOk c) : Base (.non) := (base_nl (d := .non) rfl (opt_of (shK (n := 400) (d := .non) rfl (by decide +kernel)) (by first | exact rfl | decide +kernel) (by first | exact rfl | kernel_rfl)) (by kernel_rfl) (fun _ e => by cases e) (by kernel_rfl))
theorem chk4_0 {a b c : Int × Int} (p : Addr) : mx_check_whole [.val (told p (.non))] = some (.xc 7 (told p (.non))) := by kernel_rfl
theorem base4_1 {a b c : Int × Int} (ha : FrOk a) (hb : FrOk b) (hc : FrOk c) : Base (.bl true) := (base_nl (d := .bl true) rfl (opt_of (shK (n := 400) (d := .bl true) rfl (by decide +kernel)) (by first | exact rfl | decide +kernel) (by first | exact rfl | kernel_rfl)) (by kernel_rfl) (fun _ e => by cases e) (by kernel_rfl))
theorem chk4_1 {a b c : Int × Int} (p : Addr) : mx_check_whole [.val (told p (.bl true))] = some (.xc 7 (told p (.bl true))) := by kernel_rfl
theorem base4_2 {a b c : Int × Int} (ha : FrOk a) (hb : FrOk b) (hc : FrOk c) : Base (.bl false) := (base_nl (d := .bl false) rfl (opt_of (shK (n := 400) (d := .bl false) rfl (by decide +kernel)) (by first | exact rfl | decide +kernel) (by first | exact rfl | kernel_rfl)) (by kernel_rfl) (fun _ e => by cases e) (by kernel_rfl))
theorem chk4_2 {a b c : Int × Int} (p : Addr) : mx_check_whole [.val (told p (.bl false))] = some (.xc 7 (told p (.bl false))) := by kernel_rfl
theorem base4_3 {a b c : Int × Int} (ha : FrOk a) (hb : FrOk b) (hc : FrOk c) : Base (.str "0") := (base_nl (d := .str "0") rfl (opt_of (shK (n := 400) (d := .str "0") rfl (by decide +kernel)) (by first | exact rfl | decide +kernel) (by first | exact rfl | kernel_rfl)) (by kernel_rfl) (fun _ e => by cases e) (by kernel_rfl))
theorem chk4_3 {a b c : Int × Int} (p : Addr) : mx_check_whole [.val (told p (.str "0"))] = some (.xc 7 (told p (.str "0"))) := by kernel_rfl
theorem base4_4 {a b c : Int × Int} (ha : FrOk a) (hb : FrOk b) (hc : FrOk c) : Base (.lst [.int 0]) := (base_l (ys := [.int 0]) (opt_of (shK (n := 400) (d := .lst [.int 0]) rfl (by decide +kernel)) (by first | exact rfl | decide +kernel) (by first | exact rfl | kernel_rfl)) (by kernel_rfl) (by kernel_rfl) (by kernel_rfl) (opt_of (shK (n := 400) (d := .lst [.int 0, .str "more"]) rfl (by decide +kernel)) (by first | exact rfl | decide +kernel) (by first | exact rfl | kernel_rfl)) (by kernel_rfl) (by kernel_rfl) (by kernel_rfl) (by kernel_rfl) (by kernel_rfl) (by kernel_rfl) (by kernel_rfl) (by kernel_rfl) (fun r => by kernel_rfl))
theorem chk4_4 {a b c : Int × Int} (p : Addr) : mx_check_whole [.val (told p (.lst [.int 0]))] = some (.xc 7 (told p (.lst [.int 0]))) := by kernel_rfl
theorem base4_5 {a b c : Int × Int} (ha : FrOk a) (hb : FrOk b) (hc : FrOk c) : Base (.tup [.int 1]) := (base_nl (d := .tup [.int 1]) rfl (opt_of (shK (n := 400) (d := .tup [.int 1]) rfl (by decide +kernel)) (by first | exact rfl | decide +kernel) (by first | exact rfl | kernel_rfl)) (by kernel_rfl) (fun _ e => by cases e) (by kernel_rfl))
theorem chk4_5 {a b c : Int × Int} (p : Addr) : mx_check_whole [.val (told p (.tup [.int 1]))] = some (.xc 7 (told p (.tup [.int 1]))) := by kernel_rfl
theorem base4_6 {a b c : Int × Int} (ha : FrOk a) (hb : FrOk b) (hc : FrOk c) : Base (.tup [.int 1, .int 1]) := (base_nl (d := .tup [.int 1, .int 1]) rfl (opt_of (shK (n := 400) (d := .tup [.int 1, .int 1]) rfl (by decide +kernel)) (by first | exact rfl | decide +kernel) (by first | exact rfl | kernel_rfl)) (by kernel_rfl) (fun _ e => by cases e) (by kernel_rfl))
theorem chk4_6 {a b c : Int × Int} (p : Addr) : mx_check_whole [.val (told p (.tup [.int 1, .int 1]))] = some (.xc 7 (told p (.tup [.int 1, .int 1]))) := by kernel_rfl
theorem base4 {a b c : Int × Int} (ha : FrOk a) (hb : FrOk b) (hc : FrOk c) {d : D} (h : d ∈ oddD a b c 4) : Base d := by
  have h : d ∈ ([.non, .bl true, .bl false, .str "0", .lst [.int 0], .tup [.int 1], .tup [.int 1, .int 1]] : List D) := h
  simp only [List.mem_cons, List.not_mem_nil, or_false] at h
  rcases h with rfl | rfl | rfl | rfl | rfl | rfl | rfl
  · exact base4_0 ha hb hc
  · exact base4_1 ha hb hc
  · exact base4_2 ha hb hc
  · exact base4_3 ha hb hc
  · exact base4_4 ha hb hc
  · exact base4_5 ha hb hc
  · exact base4_6 ha hb hc
theorem chk4 {a b c : Int × Int} (ha : FrOk a) (hb : FrOk b) (hc : FrOk c) {d : D} (h : d ∈ oddD a b c 4) (p : Addr) : mx_check_whole [.val (told p d)] = some (.xc 7 (told p d)) := by
  have h : d ∈ ([.non, .bl true, .bl false, .str "0", .lst [.int 0], .tup [.int 1], .tup [.int 1, .int 1]] : List D) := h
  simp only [List.mem_cons, List.not_mem_nil, or_false] at h
  rcases h with rfl | rfl | rfl | rfl | rfl | rfl | rfl
  · exact chk4_0 (a := a) (b := b) (c := c) p
  · exact chk4_1 (a := a) (b := b) (c := c) p
  · exact chk4_2 (a := a) (b := b) (c := c) p
  · exact chk4_3 (a := a) (b := b) (c := c) p
  · exact chk4_4 (a := a) (b := b) (c := c) p
  · exact chk4_5 (a := a) (b := b) (c := c) p
  · exact chk4_6 (a := a) (b := b) (c := c) p
theorem phs_ok {a b c : Int × Int} (ha : FrOk a) (hb : FrOk b) (hc : FrOk c) : mx_check_phases [.val madeD, .val (phD a b c)] = some (.ret .non []) := by
  have q := frac_comp (M := .val madeD) (l := [(frD a, true), (frD b, true), (frD c, true)]) (fun x hx => by
    simp only [List.mem_cons, List.not_mem_nil, or_false] at hx
    rcases hx with rfl | rfl | rfl
    · exact ⟨is_fraction_eq ha.1, rfl⟩
    · exact ⟨is_fraction_eq hb.1, rfl⟩
    · exact ⟨is_fraction_eq hc.1, rfl⟩) (Nat.le_of_ble_eq_true rfl)
  exact mirX_nx (xS_nx (xIf_f rfl rfl) (xIf_f (sB_of (s2_of q rfl (show gNe (.lst []) (.lst []) = some (.bl false) by kernel_rfl))) rfl)) rfl
theorem net_ok : mx_check_net [.val madeD] = some (.ret .non []) := by kernel_rfl
theorem cnp_made {a b c : Int × Int} (ha : FrOk a) (hb : FrOk b) (hc : FrOk c) : mx_check_net_and_phases [.val madeD, .val (phD a b c)] = some (.ret .non []) := cnp_ok net_ok (phs_ok ha hb hc)
theorem name_b : mx_check_name [.val madeD, .val (.str "b")] = some (.ret .non []) := by kernel_rfl
theorem name_c : mx_check_name [.val madeD, .val (.str "c")] = some (.ret .non []) := by kernel_rfl
theorem name_a : mx_check_name [.val madeD, .val (.str "a")] = some (.ret .non []) := by kernel_rfl
theorem path_ok : mx_check_path [.val madeD, .val pathD] = some (.ret .non []) := by kernel_rfl
end Toy.R13

set_option Elab.async false
set_option linter.all false
set_option maxRecDepth 100000
set_option maxHeartbeats 4000000
namespace Toy
open PySem PySem.Spec PyProof.Rows L2 VS
theorem bOr_f {a b : SB} {ρ ρ1 ρ2 : Rho} (h1 : a ρ = some (false, ρ1)) (h2 : b ρ1 = some (false, ρ2)) : bOr a b ρ = some (false, ρ2) := by
  unfold bOr
  rw [h1]
  exact h2
structure OkN (ns : Nt) : Prop where
  ok : NtOk ns
  st : Steps ns
theorem DrNet.okN {ns : Nt} (N : DrNet ns) : OkN ns := ⟨N.ok, N.st⟩
theorem kSet_too {i : Nat} {e : SE} {ρ ρ1 ρ2 : Rho} {d : D} (h : e ρ = some (d, ρ1)) (h2 : ρ1.set i (.val d) = ρ2) : kSet i e ρ = some (.nx, ρ2) := by
  unfold kSet
  rw [h]
  simp only [h2]
theorem kOwnC_too {i n : Nat} {m : MirM} {a : SA} {ρ ρ1 ρ2 : Rho} {xs ys : List D} (h : a ρ = some (xs, ρ1)) (hn : xs.length = n) (hm : m (xs.map .val) = some ys) (h2 : ρ1.set i (.own ys) = ρ2) : kOwnC i n m a ρ = some (.nx, ρ2) := by
  unfold kOwnC
  simp only [h, hn, if_true, hm, h2]
theorem begun_eq {ns : Nt} {ph : List (Int × Int)} (N : OkN ns) (h : Phs ph) (hl : ph.length = ns.length) {j : Nat} (hj : j < ns.length) {r : Int} (sr : Sm 600 r) :
    m_begun [.val (netD ns), .val (.tup (ph.map frD)), .val (.str (nmA ns j)), .val (.int r)] = some (lowD (ss (unitL ph) j + r * pp ns j * unitS ph) (unitS ph), []) := by
  have es : ns[j]? = some ns[j] := by simp [hj]
  have en : nmA ns j = ns[j].nm := by unfold nmA; rw [es]; rfl
  have ep : pp ns j = ns[j].p := by unfold pp; rw [es]; rfl
  have q := N.st.1 _ (List.mem_of_getElem? es)
  have po := place_of_eq N.ok es
  have xl : j < (unitL ph).length := by unfold unitL; rw [List.length_map, hl]; exact hj
  have ex : (unitL ph)[j]? = some (ss (unitL ph) j) := by simp [ss, xl]
  have tb := time_begun_eq (sc := unitS ph) (r := r) es ex (sr.bd (by decide)) (q.2.1.bd (by decide)) ((sr.mul q.2.1).bd (by decide)) (h.sm.bd (by decide))
  have lw := lowest_eq (a := ss (unitL ph) j + r * ns[j].p * unitS ph) h.pos (h.sm.mono (by decide))
  have cn : m_check_name [.val (netD ns), .val (.str ns[j].nm)] = some (.non, []) :=
    mir_nx (ρ0 := [_, _]) rfl (kIf_f (sB_of (s1_of (sCall_of (aC_of rfl (aC_of rfl rfl)) rfl po) (show gIsN (.int (j : Nat)) = some (.bl false) from rfl))) rfl) rfl
  rw [en, ep]
  exact mir_rt (ρ0 := [_, _, _, _, _, _]) rfl (kS_nx (kDrop_of (sCall_of (aC_of rfl (aC_of rfl rfl)) rfl (check_both_eq h hl))) (kS_nx (kDrop_of (sCall_of (aC_of rfl (aC_of rfl rfl)) rfl cn)) (kS_nx (kDrop_of (sCall_of (aC_of rfl rfl) rfl (check_whole_eq r))) (kS_nx (kTup_of (sCall_of (aC_of rfl rfl) rfl (in_units_eq h)) rfl)
    (kRet_of (sCall_of (aC_of (sCall_of (aC_of rfl (aC_of rfl (aC_of rfl (aC_of (sCall_of (aC_of rfl (aC_of rfl rfl)) rfl po) (aC_of rfl rfl))))) rfl tb) (aC_of rfl rfl)) rfl lw)))))) rfl

structure Rd (ns : Nt) (ph : List (Int × Int)) : Prop where
  N : DrNet ns
  H : Phs ph
  l : ph.length = ns.length
section
variable {ns : Nt} {ph : List (Int × Int)}
theorem Rd.ask (R : Rd ns ph) {i j : Nat} {s t : Stp} (es : ns[i]? = some s) (et : ns[j]? = some t) (hr : t.nm ∈ s.rd) : Ask ns (unitL ph) (unitS ph) [j, i] 1 := by
  have hi : i < ns.length := (List.getElem?_eq_some_iff.mp es).1
  have hj : j < ns.length := (List.getElem?_eq_some_iff.mp et).1
  refine dr_ask R.N R.H R.l ⟨fun k hk => ?_, by simp, fun k hk => ?_⟩ rfl (by decide)
  · simp only [List.mem_cons, List.not_mem_nil, or_false] at hk
    rcases hk with rfl | rfl
    · exact hj
    · exact hi
  · have : k = 0 := by simp at hk; omega
    subst this
    exact ⟨t, s, et, es, hr⟩
theorem Rd.newest (R : Rd ns ph) {i j : Nat} {s t : Stp} (es : ns[i]? = some s) (et : ns[j]? = some t) (hr : t.nm ∈ s.rd) {r : Int} (sr : Sm 100 r) :
    m_newest [.val (netD ns), .val (.tup (ph.map frD)), .val (.str s.nm), .val (.str t.nm), .val (.int r)] = some (.int (rr ns (unitL ph) (unitS ph) i j r), []) ∧ Sm 565 (rr ns (unitL ph) (unitS ph) i j r) := by
  have A := R.ask es et hr
  have q := A.read (r := i) (q := j) (List.getElem?_eq_some_iff.mp es).1 (List.getElem?_eq_some_iff.mp et).1 sr (by decide) (by decide)
  obtain ⟨q1, q2⟩ := q
  have p1 := place_of_eq R.N.ok es
  have p2 := place_of_eq R.N.ok et
  have cn : m_check_name [.val (netD ns), .val (.str s.nm)] = some (.non, []) :=
    mir_nx (ρ0 := [_, _]) rfl (kIf_f (sB_of (s1_of (sCall_of (aC_of rfl (aC_of rfl rfl)) rfl p1) (show gIsN (.int (i : Nat)) = some (.bl false) from rfl))) rfl) rfl
  have gi : gIx (.tup (ns.map stpD)) (.int (i : Nat)) = some (stpD s) := by
    rw [gIx_tup, atI_nat]
    exact map_get es
  have gf : gFld 0 3 (stpD s) = some (.tup (s.rd.map .str)) := rfl
  have gn := gNotIn_tup t.nm s.rd
  rw [decide_eq_true hr] at gn
  have tst : bOr (bNot (sB (s1 (gIsTy2 2) (sV 3)))) (sB (s2 gNotIn (sV 3) (s1 (gFld 0 3) (s2 gIx (s1 (gFld 1 0) (sV 0)) (sCall 2 m_place_of (aC (sV 0) (aC (sV 2) aN))))))) [.val (netD ns), .val (.tup (ph.map frD)), .val (.str s.nm), .val (.str t.nm), .val (.int r), .no, .no] =
      some (false, [.val (netD ns), .val (.tup (ph.map frD)), .val (.str s.nm), .val (.str t.nm), .val (.int r), .no, .no]) :=
    bOr_f rfl (sB_of (s2_of rfl (s1_of (s2_of (s1_of rfl nodes_eq) (sCall_of (aC_of rfl (aC_of rfl rfl)) rfl p1) gi) gf) gn))
  refine ⟨?_, q2⟩
  exact mir_rt (ρ0 := [_, _, _, _, _, _, _]) rfl (kS_nx (kDrop_of (sCall_of (aC_of rfl (aC_of rfl rfl)) rfl (check_both_eq R.H R.l))) (kS_nx (kDrop_of (sCall_of (aC_of rfl (aC_of rfl rfl)) rfl cn)) (kS_nx (kIf_f tst rfl) (kS_nx (kDrop_of (sCall_of (aC_of rfl rfl) rfl (check_whole_eq r))) (kS_nx (kTup_of (sCall_of (aC_of rfl rfl) rfl (in_units_eq R.H)) rfl)
    (kRet_of (sCall_of (aC_of rfl (aC_of rfl (aC_of rfl (aC_of (sCall_of (aC_of rfl (aC_of rfl rfl)) rfl p1) (aC_of (sCall_of (aC_of rfl (aC_of rfl rfl)) rfl p2) (aC_of rfl rfl)))))) rfl q1))))))) rfl
end
def ns13 : Nt := [⟨"a", 4, 1, []⟩, ⟨"b", 6, 0, ["a"]⟩, ⟨"c", 3, 2, ["b", "c"]⟩]
theorem mem13 {s : Stp} (h : s ∈ ns13) : s = ⟨"a", 4, 1, []⟩ ∨ s = ⟨"b", 6, 0, ["a"]⟩ ∨ s = ⟨"c", 3, 2, ["b", "c"]⟩ := by
  unfold ns13 at h
  simpa using h
theorem okA : NmOk "a" := isOk_nm (by decide +kernel)
theorem okB : NmOk "b" := isOk_nm (by decide +kernel)
theorem okC : NmOk "c" := isOk_nm (by decide +kernel)
theorem bc_nd : (["b", "c"] : List Str).Nodup := by decide +kernel
theorem abc_nd : (["a", "b", "c"] : List Str).Nodup := by decide +kernel
theorem st13 : ∀ s ∈ ns13, StOk s := fun s hs => by
  rcases mem13 hs with rfl | rfl | rfl
  · exact ⟨okA, (by show (0 : Int) < 4; decide), (by show (0 : Int) ≤ 1; decide), (fun x hx => by cases hx), List.nodup_nil, (by show 0 ≤ 4000; decide)⟩
  · refine ⟨okB, (by show (0 : Int) < 6; decide), (by show (0 : Int) ≤ 0; decide), (fun x hx => ?_), (by simp), (by show 1 ≤ 4000; decide)⟩
    rw [List.mem_singleton.mp hx]; exact okA
  · refine ⟨okC, (by show (0 : Int) < 3; decide), (by show (0 : Int) ≤ 2; decide), (fun x hx => ?_), bc_nd, (by show 2 ≤ 4000; decide)⟩
    rcases List.mem_cons.mp hx with rfl | hx
    · exact okB
    · rw [List.mem_singleton.mp hx]; exact okC
theorem N13 : DrNet ns13 where
  ok := ⟨by unfold ns13; simp, st13, abc_nd, fun s hs x hx => by
    show x ∈ (["a", "b", "c"] : List Str)
    rcases mem13 hs with rfl | rfl | rfl
    · cases hx
    · rw [List.mem_singleton.mp hx]; simp
    · rcases List.mem_cons.mp hx with rfl | hx
      · simp
      · rw [List.mem_singleton.mp hx]; simp, by show 3 ≤ 4000; decide⟩
  st := ⟨fun s hs => by
    rcases mem13 hs with rfl | rfl | rfl
    · exact ⟨(by show (0 : Int) < 4; decide), sm60 (show (-1000 : Int) ≤ 4 by decide) (show (4 : Int) ≤ 1000 by decide), sm60 (show (-1000 : Int) ≤ 1 by decide) (show (1 : Int) ≤ 1000 by decide)⟩
    · exact ⟨(by show (0 : Int) < 6; decide), sm60 (show (-1000 : Int) ≤ 6 by decide) (show (6 : Int) ≤ 1000 by decide), sm60 (show (-1000 : Int) ≤ 0 by decide) (show (0 : Int) ≤ 1000 by decide)⟩
    · exact ⟨(by show (0 : Int) < 3; decide), sm60 (show (-1000 : Int) ≤ 3 by decide) (show (3 : Int) ≤ 1000 by decide), sm60 (show (-1000 : Int) ≤ 2 by decide) (show (2 : Int) ≤ 1000 by decide)⟩, by show 3 ≤ 60; decide⟩
  ln := by show 3 ≤ 4; decide
  lc := by
    have : lcmL [4, 6, 3] ≤ 100000 := by decide +kernel
    exact this
  p := fun s hs => by
    rcases mem13 hs with rfl | rfl | rfl
    · show (4 : Int) ≤ 60; decide
    · show (6 : Int) ≤ 60; decide
    · show (3 : Int) ≤ 60; decide
  l := fun s hs => by
    rcases mem13 hs with rfl | rfl | rfl
    · exact ⟨(by show (0 : Int) ≤ 1; decide), (by show (1 : Int) ≤ 100; decide)⟩
    · exact ⟨(by show (0 : Int) ≤ 0; decide), (by show (0 : Int) ≤ 100; decide)⟩
    · exact ⟨(by show (0 : Int) ≤ 2; decide), (by show (2 : Int) ≤ 100; decide)⟩
  pr := fun j s t e1 e2 => by
    match j, e1, e2 with
    | 0, e1, e2 =>
      cases Option.some.inj e1
      cases Option.some.inj e2
      exact List.mem_singleton.mpr rfl
    | 1, e1, e2 =>
      cases Option.some.inj e1
      cases Option.some.inj e2
      show ("b" : Str) ∈ (["b", "c"] : List Str)
      simp
    | j + 2, e1, e2 => simp [ns13] at e2
  pd := by show (6 : Int) * (3 * 1) ≤ 1000; decide
  one := by show 1 ≤ 3; decide
theorem P13 : Pth ns13 [0, 1, 2, 2] where
  pi := fun i hi => by
    show i < 3
    simp only [List.mem_cons, List.not_mem_nil, or_false] at hi
    omega
  ne := by simp
  st := fun j hj => by
    have : j = 0 ∨ j = 1 ∨ j = 2 := by simp at hj; omega
    rcases this with rfl | rfl | rfl
    · exact ⟨_, _, rfl, rfl, List.mem_singleton.mpr rfl⟩
    · exact ⟨_, _, rfl, rfl, by show ("b" : Str) ∈ (["b", "c"] : List Str); simp⟩
    · exact ⟨_, _, rfl, rfl, by show ("c" : Str) ∈ (["b", "c"] : List Str); simp⟩
abbrev pa13 : D := .lst [.str "a", .str "b", .str "c", .str "c"]
theorem ages_ne13 {ns : Nt} {S : List Int} {sc : Int} {P : List Nat} {m : Nat} (A : Ask ns S sc P m) : agesL ns S sc P m ≠ [] := by
  have := (many_pos A).1
  unfold agesL
  intro h
  have := congrArg List.length h
  simp at this
  omega
section
variable {ph : List (Int × Int)} {r : Int}
theorem fits_0 (H : Phs ph) (hl : ph.length = 3) (sr : Sm 100 r) : ∃ x o, m_law_called [.val (.int 0), .val (.lst [netD ns13, .tup (ph.map frD), .str "b", .int r])] = some (x, o) := by
  have A : Ask ns13 (unitL ph) (unitS ph) [0, 1, 2, 2] 3 := dr_ask N13 H hl P13 rfl (by decide)
  have E : Entry ns13 (unitL ph) (unitS ph) [0, 1, 2, 2] (.tup (ph.map frD)) pa13 := dr_entry N13 H hl P13 (by decide)
  have RD : Rd ns13 ph := ⟨N13, H, hl⟩
  obtain ⟨lo, hi, kk, i1, i2, i3, i4, i5, i6⟩ := isort_ends (ages_ne13 A)
  have h := begun_eq N13.okN H hl (j := 1) (by decide) (r := r) (sr.mono (by decide))
  exact ⟨_, _, mir_rt (ρ0 := [_, _]) rfl (kS_rt (kIf_t rfl (kRet_of (sCall_of (aC_of (s2_of rfl rfl rfl) (aC_of (s2_of rfl rfl rfl) (aC_of (s2_of rfl rfl rfl) (aC_of (s2_of rfl rfl rfl) rfl)))) rfl h)))) rfl⟩
theorem fits_1 (H : Phs ph) (hl : ph.length = 3) (sr : Sm 100 r) : ∃ x o, m_law_called [.val (.int 1), .val (.lst [netD ns13, .tup (ph.map frD), .str "c", .str "b", .int r])] = some (x, o) := by
  have A : Ask ns13 (unitL ph) (unitS ph) [0, 1, 2, 2] 3 := dr_ask N13 H hl P13 rfl (by decide)
  have E : Entry ns13 (unitL ph) (unitS ph) [0, 1, 2, 2] (.tup (ph.map frD)) pa13 := dr_entry N13 H hl P13 (by decide)
  have RD : Rd ns13 ph := ⟨N13, H, hl⟩
  obtain ⟨lo, hi, kk, i1, i2, i3, i4, i5, i6⟩ := isort_ends (ages_ne13 A)
  have h := (RD.newest (i := 2) (j := 1) (s := ⟨"c", 3, 2, ["b", "c"]⟩) (t := ⟨"b", 6, 0, ["a"]⟩) rfl rfl List.mem_cons_self (r := r) sr).1
  exact ⟨_, _, mir_rt (ρ0 := [_, _]) rfl (kS_nx (kIf_f rfl rfl) (kS_rt (kIf_t rfl (kRet_of (sCall_of (aC_of (s2_of rfl rfl rfl) (aC_of (s2_of rfl rfl rfl) (aC_of (s2_of rfl rfl rfl) (aC_of (s2_of rfl rfl rfl) (aC_of (s2_of rfl rfl rfl) rfl))))) rfl h))))) rfl⟩
theorem fits_2 (H : Phs ph) (hl : ph.length = 3) (sr : Sm 100 r) : ∃ x o, m_law_called [.val (.int 2), .val (.lst [netD ns13, .tup (ph.map frD), pa13, .int r])] = some (x, o) := by
  have A : Ask ns13 (unitL ph) (unitS ph) [0, 1, 2, 2] 3 := dr_ask N13 H hl P13 rfl (by decide)
  have E : Entry ns13 (unitL ph) (unitS ph) [0, 1, 2, 2] (.tup (ph.map frD)) pa13 := dr_entry N13 H hl P13 (by decide)
  have RD : Rd ns13 ph := ⟨N13, H, hl⟩
  obtain ⟨lo, hi, kk, i1, i2, i3, i4, i5, i6⟩ := isort_ends (ages_ne13 A)
  have h := carried_eq A E sr (by decide) (by decide)
  exact ⟨_, _, mir_rt (ρ0 := [_, _]) rfl (kS_nx (kIf_f rfl rfl) (kS_nx (kIf_f rfl rfl) (kS_rt (kIf_t rfl (kRet_of (sCall_of (aC_of (s2_of rfl rfl rfl) (aC_of (s2_of rfl rfl rfl) (aC_of (s2_of rfl rfl rfl) (aC_of (s2_of rfl rfl rfl) rfl)))) rfl h)))))) rfl⟩
theorem fits_3 (H : Phs ph) (hl : ph.length = 3) (sr : Sm 100 r) : ∃ x o, m_law_called [.val (.int 3), .val (.lst [netD ns13, .tup (ph.map frD), pa13, .int r])] = some (x, o) := by
  have A : Ask ns13 (unitL ph) (unitS ph) [0, 1, 2, 2] 3 := dr_ask N13 H hl P13 rfl (by decide)
  have E : Entry ns13 (unitL ph) (unitS ph) [0, 1, 2, 2] (.tup (ph.map frD)) pa13 := dr_entry N13 H hl P13 (by decide)
  have RD : Rd ns13 ph := ⟨N13, H, hl⟩
  obtain ⟨lo, hi, kk, i1, i2, i3, i4, i5, i6⟩ := isort_ends (ages_ne13 A)
  have h := age_eq A E sr (by decide) (by decide)
  exact ⟨_, _, mir_rt (ρ0 := [_, _]) rfl (kS_nx (kIf_f rfl rfl) (kS_nx (kIf_f rfl rfl) (kS_nx (kIf_f rfl rfl) (kS_rt (kIf_t rfl (kRet_of (sCall_of (aC_of (s2_of rfl rfl rfl) (aC_of (s2_of rfl rfl rfl) (aC_of (s2_of rfl rfl rfl) (aC_of (s2_of rfl rfl rfl) rfl)))) rfl h))))))) rfl⟩
theorem fits_4 (H : Phs ph) (hl : ph.length = 3) (sr : Sm 100 r) : ∃ x o, m_law_called [.val (.int 4), .val (.lst [netD ns13, .tup (ph.map frD), pa13])] = some (x, o) := by
  have A : Ask ns13 (unitL ph) (unitS ph) [0, 1, 2, 2] 3 := dr_ask N13 H hl P13 rfl (by decide)
  have E : Entry ns13 (unitL ph) (unitS ph) [0, 1, 2, 2] (.tup (ph.map frD)) pa13 := dr_entry N13 H hl P13 (by decide)
  have RD : Rd ns13 ph := ⟨N13, H, hl⟩
  obtain ⟨lo, hi, kk, i1, i2, i3, i4, i5, i6⟩ := isort_ends (ages_ne13 A)
  have h := ages_eq A E i4 i5 i6
  exact ⟨_, _, mir_rt (ρ0 := [_, _]) rfl (kS_nx (kIf_f rfl rfl) (kS_nx (kIf_f rfl rfl) (kS_nx (kIf_f rfl rfl) (kS_nx (kIf_f rfl rfl) (kS_rt (kIf_t rfl (kRet_of (sCall_of (aC_of (s2_of rfl rfl rfl) (aC_of (s2_of rfl rfl rfl) (aC_of (s2_of rfl rfl rfl) rfl))) rfl h)))))))) rfl⟩
theorem fits_5 (H : Phs ph) (hl : ph.length = 3) (sr : Sm 100 r) : ∃ x o, m_law_called [.val (.int 5), .val (.lst [netD ns13, .tup (ph.map frD), pa13])] = some (x, o) := by
  have A : Ask ns13 (unitL ph) (unitS ph) [0, 1, 2, 2] 3 := dr_ask N13 H hl P13 rfl (by decide)
  have E : Entry ns13 (unitL ph) (unitS ph) [0, 1, 2, 2] (.tup (ph.map frD)) pa13 := dr_entry N13 H hl P13 (by decide)
  have RD : Rd ns13 ph := ⟨N13, H, hl⟩
  obtain ⟨lo, hi, kk, i1, i2, i3, i4, i5, i6⟩ := isort_ends (ages_ne13 A)
  have h := longest_wait_eq A E (wait_is A i5 fun x hx => (i6 x hx).2)
  exact ⟨_, _, mir_rt (ρ0 := [_, _]) rfl (kS_nx (kIf_f rfl rfl) (kS_nx (kIf_f rfl rfl) (kS_nx (kIf_f rfl rfl) (kS_nx (kIf_f rfl rfl) (kS_nx (kIf_f rfl rfl) (kS_rt (kIf_t rfl (kRet_of (sCall_of (aC_of (s2_of rfl rfl rfl) (aC_of (s2_of rfl rfl rfl) (aC_of (s2_of rfl rfl rfl) rfl))) rfl h))))))))) rfl⟩
theorem fits_6 (H : Phs ph) (hl : ph.length = 3) (sr : Sm 100 r) : ∃ x o, m_law_called [.val (.int 6), .val (.lst [netD ns13, .tup (ph.map frD), pa13])] = some (x, o) := by
  have A : Ask ns13 (unitL ph) (unitS ph) [0, 1, 2, 2] 3 := dr_ask N13 H hl P13 rfl (by decide)
  have E : Entry ns13 (unitL ph) (unitS ph) [0, 1, 2, 2] (.tup (ph.map frD)) pa13 := dr_entry N13 H hl P13 (by decide)
  have RD : Rd ns13 ph := ⟨N13, H, hl⟩
  obtain ⟨lo, hi, kk, i1, i2, i3, i4, i5, i6⟩ := isort_ends (ages_ne13 A)
  have h := uses_eq A E
  exact ⟨_, _, mir_rt (ρ0 := [_, _]) rfl (kS_nx (kIf_f rfl rfl) (kS_nx (kIf_f rfl rfl) (kS_nx (kIf_f rfl rfl) (kS_nx (kIf_f rfl rfl) (kS_nx (kIf_f rfl rfl) (kS_nx (kIf_f rfl rfl) (kRet_of (sCall_of (aC_of (s2_of rfl rfl rfl) (aC_of (s2_of rfl rfl rfl) (aC_of (s2_of rfl rfl rfl) rfl))) rfl h)))))))) rfl⟩
end
end Toy

set_option Elab.async false
set_option linter.all false
set_option maxRecDepth 100000
set_option maxHeartbeats 4000000
namespace Toy.R13
open PySem PySem.Spec PyProof.Rows L2 VS
def Ph13 (ph : D) : Prop := ∃ a b c, FrOk a ∧ FrOk b ∧ FrOk c ∧ ph = phD a b c
def od13 (ph : D) (kd : Nat) : List D := match ph with
  | .tup [.tup [.int a0, .int a1], .tup [.int b0, .int b1], .tup [.int c0, .int c1]] => oddD (a0, a1) (b0, b1) (c0, c1) kd
  | _ => []
theorem od_eq {a b c : Int × Int} (kd : Nat) : od13 (phD a b c) kd = oddD a b c kd := rfl
theorem list3 {α : Type} : ∀ {l : List α}, l.length = 3 → ∃ a b c, l = [a, b, c]
  | [a, b, c], _ => ⟨a, b, c, rfl⟩
theorem list4 {α : Type} : ∀ {l : List α}, l.length = 4 → ∃ a b c d, l = [a, b, c, d]
  | [a, b, c, d], _ => ⟨a, b, c, d, rfl⟩
theorem list5 {α : Type} : ∀ {l : List α}, l.length = 5 → ∃ a b c d e, l = [a, b, c, d, e]
  | [a, b, c, d, e], _ => ⟨a, b, c, d, e, rfl⟩
section
variable {a b c : Int × Int} (ha : FrOk a) (hb : FrOk b) (hc : FrOk c) {r : Int} {d : D}
include ha hb hc

theorem xc_0_0 (h : d ∈ oddD a b c 0) (p : Addr) (R' : List D) (P : Pre 0 0 (phD a b c) r R' (told p d)) : ∃ k, mx_law_called [.val (.int ((0 : Nat) : Int)), .val (.lst R')] = some (.xc k (told p d)) ∧ (k, 0) ∈ Kinds13 := by
  obtain ⟨y0, y1, y2, y3, rfl⟩ := list4 P.len
  have e0 : some y0 = some (told p d) := P.at_
  cases Option.some.inj e0
  exact ⟨_, (called_0 (begun_0 (cnp_net (chk0 ha hb hc h p)))), (by simp [Kinds13])⟩
theorem xc_0_1 (h : d ∈ oddD a b c 1) (p : Addr) (R' : List D) (P : Pre 0 1 (phD a b c) r R' (told p d)) : ∃ k, mx_law_called [.val (.int ((0 : Nat) : Int)), .val (.lst R')] = some (.xc k (told p d)) ∧ (k, 1) ∈ Kinds13 := by
  obtain ⟨y0, y1, y2, y3, rfl⟩ := list4 P.len
  have e0 : some y0 = some (madeD) := P.pre 0 (by decide)
  cases Option.some.inj e0
  have e1 : some y1 = some (told p d) := P.at_
  cases Option.some.inj e1
  exact ⟨_, (called_0 (begun_0 (cnp_ph net_ok (chk1 ha hb hc h p)))), (by simp [Kinds13])⟩
theorem xc_0_2 (h : d ∈ oddD a b c 2) (p : Addr) (R' : List D) (P : Pre 0 2 (phD a b c) r R' (told p d)) : ∃ k, mx_law_called [.val (.int ((0 : Nat) : Int)), .val (.lst R')] = some (.xc k (told p d)) ∧ (k, 2) ∈ Kinds13 := by
  obtain ⟨y0, y1, y2, y3, rfl⟩ := list4 P.len
  have e0 : some y0 = some (madeD) := P.pre 0 (by decide)
  cases Option.some.inj e0
  have e1 : some y1 = some (phD a b c) := P.pre 1 (by decide)
  cases Option.some.inj e1
  have e2 : some y2 = some (told p d) := P.at_
  cases Option.some.inj e2
  exact ⟨_, (called_0 (begun_1 (cnp_made ha hb hc) (chk2 ha hb hc h p))), (by simp [Kinds13])⟩
theorem xc_0_3 (h : d ∈ oddD a b c 4) (p : Addr) (R' : List D) (P : Pre 0 3 (phD a b c) r R' (told p d)) : ∃ k, mx_law_called [.val (.int ((0 : Nat) : Int)), .val (.lst R')] = some (.xc k (told p d)) ∧ (k, 4) ∈ Kinds13 := by
  obtain ⟨y0, y1, y2, y3, rfl⟩ := list4 P.len
  have e0 : some y0 = some (madeD) := P.pre 0 (by decide)
  cases Option.some.inj e0
  have e1 : some y1 = some (phD a b c) := P.pre 1 (by decide)
  cases Option.some.inj e1
  have e2 : some y2 = some (.str "b") := P.pre 2 (by decide)
  cases Option.some.inj e2
  have e3 : some y3 = some (told p d) := P.at_
  cases Option.some.inj e3
  exact ⟨_, (called_0 (begun_2 (cnp_made ha hb hc) name_b (chk4 ha hb hc h p))), (by simp [Kinds13])⟩
theorem xc_1_0 (h : d ∈ oddD a b c 0) (p : Addr) (R' : List D) (P : Pre 1 0 (phD a b c) r R' (told p d)) : ∃ k, mx_law_called [.val (.int ((1 : Nat) : Int)), .val (.lst R')] = some (.xc k (told p d)) ∧ (k, 0) ∈ Kinds13 := by
  obtain ⟨y0, y1, y2, y3, y4, rfl⟩ := list5 P.len
  have e0 : some y0 = some (told p d) := P.at_
  cases Option.some.inj e0
  exact ⟨_, (called_1 (newest_0 (cnp_net (chk0 ha hb hc h p)))), (by simp [Kinds13])⟩
theorem xc_1_1 (h : d ∈ oddD a b c 1) (p : Addr) (R' : List D) (P : Pre 1 1 (phD a b c) r R' (told p d)) : ∃ k, mx_law_called [.val (.int ((1 : Nat) : Int)), .val (.lst R')] = some (.xc k (told p d)) ∧ (k, 1) ∈ Kinds13 := by
  obtain ⟨y0, y1, y2, y3, y4, rfl⟩ := list5 P.len
  have e0 : some y0 = some (madeD) := P.pre 0 (by decide)
  cases Option.some.inj e0
  have e1 : some y1 = some (told p d) := P.at_
  cases Option.some.inj e1
  exact ⟨_, (called_1 (newest_0 (cnp_ph net_ok (chk1 ha hb hc h p)))), (by simp [Kinds13])⟩
theorem xc_1_2 (h : d ∈ oddD a b c 2) (p : Addr) (R' : List D) (P : Pre 1 2 (phD a b c) r R' (told p d)) : ∃ k, mx_law_called [.val (.int ((1 : Nat) : Int)), .val (.lst R')] = some (.xc k (told p d)) ∧ (k, 2) ∈ Kinds13 := by
  obtain ⟨y0, y1, y2, y3, y4, rfl⟩ := list5 P.len
  have e0 : some y0 = some (madeD) := P.pre 0 (by decide)
  cases Option.some.inj e0
  have e1 : some y1 = some (phD a b c) := P.pre 1 (by decide)
  cases Option.some.inj e1
  have e2 : some y2 = some (told p d) := P.at_
  cases Option.some.inj e2
  exact ⟨_, (called_1 (newest_1 (cnp_made ha hb hc) (chk2 ha hb hc h p))), (by simp [Kinds13])⟩
theorem xc_1_3 (h : d ∈ oddD a b c 2) (p : Addr) (R' : List D) (P : Pre 1 3 (phD a b c) r R' (told p d)) : ∃ k, mx_law_called [.val (.int ((1 : Nat) : Int)), .val (.lst R')] = some (.xc k (told p d)) ∧ (k, 2) ∈ Kinds13 := by
  obtain ⟨y0, y1, y2, y3, y4, rfl⟩ := list5 P.len
  have e0 : some y0 = some (madeD) := P.pre 0 (by decide)
  cases Option.some.inj e0
  have e1 : some y1 = some (phD a b c) := P.pre 1 (by decide)
  cases Option.some.inj e1
  have e2 : some y2 = some (.str "c") := P.pre 2 (by decide)
  cases Option.some.inj e2
  have e3 : some y3 = some (told p d) := P.at_
  cases Option.some.inj e3
  exact ⟨_, (called_1 (newest_2 (cnp_made ha hb hc) name_c (nw ha hb hc h p _ _))), (by simp [Kinds13])⟩
theorem xc_1_4 (h : d ∈ oddD a b c 4) (p : Addr) (R' : List D) (P : Pre 1 4 (phD a b c) r R' (told p d)) : ∃ k, mx_law_called [.val (.int ((1 : Nat) : Int)), .val (.lst R')] = some (.xc k (told p d)) ∧ (k, 4) ∈ Kinds13 := by
  obtain ⟨y0, y1, y2, y3, y4, rfl⟩ := list5 P.len
  have e0 : some y0 = some (madeD) := P.pre 0 (by decide)
  cases Option.some.inj e0
  have e1 : some y1 = some (phD a b c) := P.pre 1 (by decide)
  cases Option.some.inj e1
  have e2 : some y2 = some (.str "c") := P.pre 2 (by decide)
  cases Option.some.inj e2
  have e3 : some y3 = some (.str "b") := P.pre 3 (by decide)
  cases Option.some.inj e3
  have e4 : some y4 = some (told p d) := P.at_
  cases Option.some.inj e4
  exact ⟨_, (called_1 (newest_3 (cnp_made ha hb hc) name_c (by kernel_rfl) (chk4 ha hb hc h p))), (by simp [Kinds13])⟩
theorem xc_2_0 (h : d ∈ oddD a b c 0) (p : Addr) (R' : List D) (P : Pre 2 0 (phD a b c) r R' (told p d)) : ∃ k, mx_law_called [.val (.int ((2 : Nat) : Int)), .val (.lst R')] = some (.xc k (told p d)) ∧ (k, 0) ∈ Kinds13 := by
  obtain ⟨y0, y1, y2, y3, rfl⟩ := list4 P.len
  have e0 : some y0 = some (told p d) := P.at_
  cases Option.some.inj e0
  exact ⟨_, (called_2 (carried_0 (cnp_net (chk0 ha hb hc h p)))), (by simp [Kinds13])⟩
theorem xc_2_1 (h : d ∈ oddD a b c 1) (p : Addr) (R' : List D) (P : Pre 2 1 (phD a b c) r R' (told p d)) : ∃ k, mx_law_called [.val (.int ((2 : Nat) : Int)), .val (.lst R')] = some (.xc k (told p d)) ∧ (k, 1) ∈ Kinds13 := by
  obtain ⟨y0, y1, y2, y3, rfl⟩ := list4 P.len
  have e0 : some y0 = some (madeD) := P.pre 0 (by decide)
  cases Option.some.inj e0
  have e1 : some y1 = some (told p d) := P.at_
  cases Option.some.inj e1
  exact ⟨_, (called_2 (carried_0 (cnp_ph net_ok (chk1 ha hb hc h p)))), (by simp [Kinds13])⟩
theorem xc_2_2 (h : d ∈ oddD a b c 3) (p : Addr) (R' : List D) (P : Pre 2 2 (phD a b c) r R' (told p d)) : ∃ k, mx_law_called [.val (.int ((2 : Nat) : Int)), .val (.lst R')] = some (.xc k (told p d)) ∧ (k, 3) ∈ Kinds13 := by
  obtain ⟨y0, y1, y2, y3, rfl⟩ := list4 P.len
  have e0 : some y0 = some (madeD) := P.pre 0 (by decide)
  cases Option.some.inj e0
  have e1 : some y1 = some (phD a b c) := P.pre 1 (by decide)
  cases Option.some.inj e1
  have e2 : some y2 = some (told p d) := P.at_
  cases Option.some.inj e2
  exact ⟨_, (called_2 (carried_1 (cnp_made ha hb hc) (chk3 ha hb hc h p))), (by simp [Kinds13])⟩
theorem xc_2_3 (h : d ∈ oddD a b c 4) (p : Addr) (R' : List D) (P : Pre 2 3 (phD a b c) r R' (told p d)) : ∃ k, mx_law_called [.val (.int ((2 : Nat) : Int)), .val (.lst R')] = some (.xc k (told p d)) ∧ (k, 4) ∈ Kinds13 := by
  obtain ⟨y0, y1, y2, y3, rfl⟩ := list4 P.len
  have e0 : some y0 = some (madeD) := P.pre 0 (by decide)
  cases Option.some.inj e0
  have e1 : some y1 = some (phD a b c) := P.pre 1 (by decide)
  cases Option.some.inj e1
  have e2 : some y2 = some (pathD) := P.pre 2 (by decide)
  cases Option.some.inj e2
  have e3 : some y3 = some (told p d) := P.at_
  cases Option.some.inj e3
  exact ⟨_, (called_2 (carried_2 (cnp_made ha hb hc) path_ok (chk4 ha hb hc h p))), (by simp [Kinds13])⟩
theorem xc_3_0 (h : d ∈ oddD a b c 0) (p : Addr) (R' : List D) (P : Pre 3 0 (phD a b c) r R' (told p d)) : ∃ k, mx_law_called [.val (.int ((3 : Nat) : Int)), .val (.lst R')] = some (.xc k (told p d)) ∧ (k, 0) ∈ Kinds13 := by
  obtain ⟨y0, y1, y2, y3, rfl⟩ := list4 P.len
  have e0 : some y0 = some (told p d) := P.at_
  cases Option.some.inj e0
  exact ⟨_, (called_3 (age_x (carried_0 (cnp_net (chk0 ha hb hc h p))))), (by simp [Kinds13])⟩
theorem xc_3_1 (h : d ∈ oddD a b c 1) (p : Addr) (R' : List D) (P : Pre 3 1 (phD a b c) r R' (told p d)) : ∃ k, mx_law_called [.val (.int ((3 : Nat) : Int)), .val (.lst R')] = some (.xc k (told p d)) ∧ (k, 1) ∈ Kinds13 := by
  obtain ⟨y0, y1, y2, y3, rfl⟩ := list4 P.len
  have e0 : some y0 = some (madeD) := P.pre 0 (by decide)
  cases Option.some.inj e0
  have e1 : some y1 = some (told p d) := P.at_
  cases Option.some.inj e1
  exact ⟨_, (called_3 (age_x (carried_0 (cnp_ph net_ok (chk1 ha hb hc h p))))), (by simp [Kinds13])⟩
theorem xc_3_2 (h : d ∈ oddD a b c 3) (p : Addr) (R' : List D) (P : Pre 3 2 (phD a b c) r R' (told p d)) : ∃ k, mx_law_called [.val (.int ((3 : Nat) : Int)), .val (.lst R')] = some (.xc k (told p d)) ∧ (k, 3) ∈ Kinds13 := by
  obtain ⟨y0, y1, y2, y3, rfl⟩ := list4 P.len
  have e0 : some y0 = some (madeD) := P.pre 0 (by decide)
  cases Option.some.inj e0
  have e1 : some y1 = some (phD a b c) := P.pre 1 (by decide)
  cases Option.some.inj e1
  have e2 : some y2 = some (told p d) := P.at_
  cases Option.some.inj e2
  exact ⟨_, (called_3 (age_x (carried_1 (cnp_made ha hb hc) (chk3 ha hb hc h p)))), (by simp [Kinds13])⟩
theorem xc_3_3 (h : d ∈ oddD a b c 4) (p : Addr) (R' : List D) (P : Pre 3 3 (phD a b c) r R' (told p d)) : ∃ k, mx_law_called [.val (.int ((3 : Nat) : Int)), .val (.lst R')] = some (.xc k (told p d)) ∧ (k, 4) ∈ Kinds13 := by
  obtain ⟨y0, y1, y2, y3, rfl⟩ := list4 P.len
  have e0 : some y0 = some (madeD) := P.pre 0 (by decide)
  cases Option.some.inj e0
  have e1 : some y1 = some (phD a b c) := P.pre 1 (by decide)
  cases Option.some.inj e1
  have e2 : some y2 = some (pathD) := P.pre 2 (by decide)
  cases Option.some.inj e2
  have e3 : some y3 = some (told p d) := P.at_
  cases Option.some.inj e3
  exact ⟨_, (called_3 (age_x (carried_2 (cnp_made ha hb hc) path_ok (chk4 ha hb hc h p)))), (by simp [Kinds13])⟩
theorem xc_4_0 (h : d ∈ oddD a b c 0) (p : Addr) (R' : List D) (P : Pre 4 0 (phD a b c) r R' (told p d)) : ∃ k, mx_law_called [.val (.int ((4 : Nat) : Int)), .val (.lst R')] = some (.xc k (told p d)) ∧ (k, 0) ∈ Kinds13 := by
  obtain ⟨y0, y1, y2, rfl⟩ := list3 P.len
  have e0 : some y0 = some (told p d) := P.at_
  cases Option.some.inj e0
  exact ⟨_, (called_4 (ages_0 (cnp_net (chk0 ha hb hc h p)))), (by simp [Kinds13])⟩
theorem xc_4_1 (h : d ∈ oddD a b c 1) (p : Addr) (R' : List D) (P : Pre 4 1 (phD a b c) r R' (told p d)) : ∃ k, mx_law_called [.val (.int ((4 : Nat) : Int)), .val (.lst R')] = some (.xc k (told p d)) ∧ (k, 1) ∈ Kinds13 := by
  obtain ⟨y0, y1, y2, rfl⟩ := list3 P.len
  have e0 : some y0 = some (madeD) := P.pre 0 (by decide)
  cases Option.some.inj e0
  have e1 : some y1 = some (told p d) := P.at_
  cases Option.some.inj e1
  exact ⟨_, (called_4 (ages_0 (cnp_ph net_ok (chk1 ha hb hc h p)))), (by simp [Kinds13])⟩
theorem xc_4_2 (h : d ∈ oddD a b c 3) (p : Addr) (R' : List D) (P : Pre 4 2 (phD a b c) r R' (told p d)) : ∃ k, mx_law_called [.val (.int ((4 : Nat) : Int)), .val (.lst R')] = some (.xc k (told p d)) ∧ (k, 3) ∈ Kinds13 := by
  obtain ⟨y0, y1, y2, rfl⟩ := list3 P.len
  have e0 : some y0 = some (madeD) := P.pre 0 (by decide)
  cases Option.some.inj e0
  have e1 : some y1 = some (phD a b c) := P.pre 1 (by decide)
  cases Option.some.inj e1
  have e2 : some y2 = some (told p d) := P.at_
  cases Option.some.inj e2
  exact ⟨_, (called_4 (ages_1 (cnp_made ha hb hc) (chk3 ha hb hc h p))), (by simp [Kinds13])⟩
theorem xc_5_0 (h : d ∈ oddD a b c 0) (p : Addr) (R' : List D) (P : Pre 5 0 (phD a b c) r R' (told p d)) : ∃ k, mx_law_called [.val (.int ((5 : Nat) : Int)), .val (.lst R')] = some (.xc k (told p d)) ∧ (k, 0) ∈ Kinds13 := by
  obtain ⟨y0, y1, y2, rfl⟩ := list3 P.len
  have e0 : some y0 = some (told p d) := P.at_
  cases Option.some.inj e0
  exact ⟨_, (called_5 (longest_wait_0 (cnp_net (chk0 ha hb hc h p)))), (by simp [Kinds13])⟩
theorem xc_5_1 (h : d ∈ oddD a b c 1) (p : Addr) (R' : List D) (P : Pre 5 1 (phD a b c) r R' (told p d)) : ∃ k, mx_law_called [.val (.int ((5 : Nat) : Int)), .val (.lst R')] = some (.xc k (told p d)) ∧ (k, 1) ∈ Kinds13 := by
  obtain ⟨y0, y1, y2, rfl⟩ := list3 P.len
  have e0 : some y0 = some (madeD) := P.pre 0 (by decide)
  cases Option.some.inj e0
  have e1 : some y1 = some (told p d) := P.at_
  cases Option.some.inj e1
  exact ⟨_, (called_5 (longest_wait_0 (cnp_ph net_ok (chk1 ha hb hc h p)))), (by simp [Kinds13])⟩
theorem xc_5_2 (h : d ∈ oddD a b c 3) (p : Addr) (R' : List D) (P : Pre 5 2 (phD a b c) r R' (told p d)) : ∃ k, mx_law_called [.val (.int ((5 : Nat) : Int)), .val (.lst R')] = some (.xc k (told p d)) ∧ (k, 3) ∈ Kinds13 := by
  obtain ⟨y0, y1, y2, rfl⟩ := list3 P.len
  have e0 : some y0 = some (madeD) := P.pre 0 (by decide)
  cases Option.some.inj e0
  have e1 : some y1 = some (phD a b c) := P.pre 1 (by decide)
  cases Option.some.inj e1
  have e2 : some y2 = some (told p d) := P.at_
  cases Option.some.inj e2
  exact ⟨_, (called_5 (longest_wait_1 (cnp_made ha hb hc) (chk3 ha hb hc h p))), (by simp [Kinds13])⟩
theorem xc_6_0 (h : d ∈ oddD a b c 0) (p : Addr) (R' : List D) (P : Pre 6 0 (phD a b c) r R' (told p d)) : ∃ k, mx_law_called [.val (.int ((6 : Nat) : Int)), .val (.lst R')] = some (.xc k (told p d)) ∧ (k, 0) ∈ Kinds13 := by
  obtain ⟨y0, y1, y2, rfl⟩ := list3 P.len
  have e0 : some y0 = some (told p d) := P.at_
  cases Option.some.inj e0
  exact ⟨_, (called_6 (uses_0 (cnp_net (chk0 ha hb hc h p)))), (by simp [Kinds13])⟩
theorem xc_6_1 (h : d ∈ oddD a b c 1) (p : Addr) (R' : List D) (P : Pre 6 1 (phD a b c) r R' (told p d)) : ∃ k, mx_law_called [.val (.int ((6 : Nat) : Int)), .val (.lst R')] = some (.xc k (told p d)) ∧ (k, 1) ∈ Kinds13 := by
  obtain ⟨y0, y1, y2, rfl⟩ := list3 P.len
  have e0 : some y0 = some (madeD) := P.pre 0 (by decide)
  cases Option.some.inj e0
  have e1 : some y1 = some (told p d) := P.at_
  cases Option.some.inj e1
  exact ⟨_, (called_6 (uses_0 (cnp_ph net_ok (chk1 ha hb hc h p)))), (by simp [Kinds13])⟩
theorem xc_6_2 (h : d ∈ oddD a b c 3) (p : Addr) (R' : List D) (P : Pre 6 2 (phD a b c) r R' (told p d)) : ∃ k, mx_law_called [.val (.int ((6 : Nat) : Int)), .val (.lst R')] = some (.xc k (told p d)) ∧ (k, 3) ∈ Kinds13 := by
  obtain ⟨y0, y1, y2, rfl⟩ := list3 P.len
  have e0 : some y0 = some (madeD) := P.pre 0 (by decide)
  cases Option.some.inj e0
  have e1 : some y1 = some (phD a b c) := P.pre 1 (by decide)
  cases Option.some.inj e1
  have e2 : some y2 = some (told p d) := P.at_
  cases Option.some.inj e2
  exact ⟨_, (called_6 (uses_1 (cnp_made ha hb hc) (chk3 ha hb hc h p))), (by simp [Kinds13])⟩
theorem base_all {kd : Nat} (h : d ∈ oddD a b c kd) : Base d := by
  match kd, h with
  | 0, h => exact base0 ha hb hc h
  | 1, h => exact base1 ha hb hc h
  | 2, h => exact base2 ha hb hc h
  | 3, h => exact base3 ha hb hc h
  | kd + 4, h => exact base4 ha hb hc h
theorem xc_all {w pl kd : Nat} (hw : w < 7) (hk : (kindsD w)[pl]? = some kd) (h : d ∈ oddD a b c kd) (p : Addr) (R' : List D) (P : Pre w pl (phD a b c) r R' (told p d)) : ∃ k, mx_law_called [.val (.int (w : Nat)), .val (.lst R')] = some (.xc k (told p d)) ∧ (k, kd) ∈ Kinds13 := by
  match w, hw with
  | 0, _ =>
    match pl, hk with
    | 0, hk => cases Option.some.inj hk; exact xc_0_0 ha hb hc h p R' P
    | 1, hk => cases Option.some.inj hk; exact xc_0_1 ha hb hc h p R' P
    | 2, hk => cases Option.some.inj hk; exact xc_0_2 ha hb hc h p R' P
    | 3, hk => cases Option.some.inj hk; exact xc_0_3 ha hb hc h p R' P
    | pl + 4, hk => exact absurd (show (none : Option Nat) = some kd from hk) (by simp)
  | 1, _ =>
    match pl, hk with
    | 0, hk => cases Option.some.inj hk; exact xc_1_0 ha hb hc h p R' P
    | 1, hk => cases Option.some.inj hk; exact xc_1_1 ha hb hc h p R' P
    | 2, hk => cases Option.some.inj hk; exact xc_1_2 ha hb hc h p R' P
    | 3, hk => cases Option.some.inj hk; exact xc_1_3 ha hb hc h p R' P
    | 4, hk => cases Option.some.inj hk; exact xc_1_4 ha hb hc h p R' P
    | pl + 5, hk => exact absurd (show (none : Option Nat) = some kd from hk) (by simp)
  | 2, _ =>
    match pl, hk with
    | 0, hk => cases Option.some.inj hk; exact xc_2_0 ha hb hc h p R' P
    | 1, hk => cases Option.some.inj hk; exact xc_2_1 ha hb hc h p R' P
    | 2, hk => cases Option.some.inj hk; exact xc_2_2 ha hb hc h p R' P
    | 3, hk => cases Option.some.inj hk; exact xc_2_3 ha hb hc h p R' P
    | pl + 4, hk => exact absurd (show (none : Option Nat) = some kd from hk) (by simp)
  | 3, _ =>
    match pl, hk with
    | 0, hk => cases Option.some.inj hk; exact xc_3_0 ha hb hc h p R' P
    | 1, hk => cases Option.some.inj hk; exact xc_3_1 ha hb hc h p R' P
    | 2, hk => cases Option.some.inj hk; exact xc_3_2 ha hb hc h p R' P
    | 3, hk => cases Option.some.inj hk; exact xc_3_3 ha hb hc h p R' P
    | pl + 4, hk => exact absurd (show (none : Option Nat) = some kd from hk) (by simp)
  | 4, _ =>
    match pl, hk with
    | 0, hk => cases Option.some.inj hk; exact xc_4_0 ha hb hc h p R' P
    | 1, hk => cases Option.some.inj hk; exact xc_4_1 ha hb hc h p R' P
    | 2, hk => cases Option.some.inj hk; exact xc_4_2 ha hb hc h p R' P
    | pl + 3, hk => exact absurd (show (none : Option Nat) = some kd from hk) (by simp)
  | 5, _ =>
    match pl, hk with
    | 0, hk => cases Option.some.inj hk; exact xc_5_0 ha hb hc h p R' P
    | 1, hk => cases Option.some.inj hk; exact xc_5_1 ha hb hc h p R' P
    | 2, hk => cases Option.some.inj hk; exact xc_5_2 ha hb hc h p R' P
    | pl + 3, hk => exact absurd (show (none : Option Nat) = some kd from hk) (by simp)
  | 6, _ =>
    match pl, hk with
    | 0, hk => cases Option.some.inj hk; exact xc_6_0 ha hb hc h p R' P
    | 1, hk => cases Option.some.inj hk; exact xc_6_1 ha hb hc h p R' P
    | 2, hk => cases Option.some.inj hk; exact xc_6_2 ha hb hc h p R' P
    | pl + 3, hk => exact absurd (show (none : Option Nat) = some kd from hk) (by simp)
end
theorem rls_in {w : Nat} (hw : w < 7) {a b c : Int × Int} {r : Int} {l : List D} (h : l ∈ rls (slots0 w (phD a b c) r)) : (∃ t, l = madeD :: t) ∨ l = [.str "a", .str "b", .str "c", .str "c"] ∨ l = kiD w := by
  match w, hw with
  | 0, _ =>
    have h : l ∈ ([rightD 0 (phD a b c) r, [.str "a", .str "b", .str "c", .str "c"], kiD 0] : List (List D)) := h
    simp only [List.mem_cons, List.not_mem_nil, or_false] at h
    rcases h with rfl | rfl | rfl
    · exact .inl ⟨_, rfl⟩
    · exact .inr (.inl rfl)
    · exact .inr (.inr rfl)
  | 1, _ =>
    have h : l ∈ ([rightD 1 (phD a b c) r, [.str "a", .str "b", .str "c", .str "c"], kiD 1] : List (List D)) := h
    simp only [List.mem_cons, List.not_mem_nil, or_false] at h
    rcases h with rfl | rfl | rfl
    · exact .inl ⟨_, rfl⟩
    · exact .inr (.inl rfl)
    · exact .inr (.inr rfl)
  | 2, _ =>
    have h : l ∈ ([rightD 2 (phD a b c) r, [.str "a", .str "b", .str "c", .str "c"], [.str "a", .str "b", .str "c", .str "c"], kiD 2] : List (List D)) := h
    simp only [List.mem_cons, List.not_mem_nil, or_false] at h
    rcases h with rfl | rfl | rfl | rfl
    · exact .inl ⟨_, rfl⟩
    · exact .inr (.inl rfl)
    · exact .inr (.inl rfl)
    · exact .inr (.inr rfl)
  | 3, _ =>
    have h : l ∈ ([rightD 3 (phD a b c) r, [.str "a", .str "b", .str "c", .str "c"], [.str "a", .str "b", .str "c", .str "c"], kiD 3] : List (List D)) := h
    simp only [List.mem_cons, List.not_mem_nil, or_false] at h
    rcases h with rfl | rfl | rfl | rfl
    · exact .inl ⟨_, rfl⟩
    · exact .inr (.inl rfl)
    · exact .inr (.inl rfl)
    · exact .inr (.inr rfl)
  | 4, _ =>
    have h : l ∈ ([rightD 4 (phD a b c) r, [.str "a", .str "b", .str "c", .str "c"], [.str "a", .str "b", .str "c", .str "c"], kiD 4] : List (List D)) := h
    simp only [List.mem_cons, List.not_mem_nil, or_false] at h
    rcases h with rfl | rfl | rfl | rfl
    · exact .inl ⟨_, rfl⟩
    · exact .inr (.inl rfl)
    · exact .inr (.inl rfl)
    · exact .inr (.inr rfl)
  | 5, _ =>
    have h : l ∈ ([rightD 5 (phD a b c) r, [.str "a", .str "b", .str "c", .str "c"], [.str "a", .str "b", .str "c", .str "c"], kiD 5] : List (List D)) := h
    simp only [List.mem_cons, List.not_mem_nil, or_false] at h
    rcases h with rfl | rfl | rfl | rfl
    · exact .inl ⟨_, rfl⟩
    · exact .inr (.inl rfl)
    · exact .inr (.inl rfl)
    · exact .inr (.inr rfl)
  | 6, _ =>
    have h : l ∈ ([rightD 6 (phD a b c) r, [.str "a", .str "b", .str "c", .str "c"], [.str "a", .str "b", .str "c", .str "c"], kiD 6] : List (List D)) := h
    simp only [List.mem_cons, List.not_mem_nil, or_false] at h
    rcases h with rfl | rfl | rfl | rfl
    · exact .inl ⟨_, rfl⟩
    · exact .inr (.inl rfl)
    · exact .inr (.inl rfl)
    · exact .inr (.inr rfl)
theorem right_hd (w : Nat) (ph : D) (r : Int) : (rightD w ph r)[0]? = some madeD := by
  match w with
  | 0 => rfl
  | 1 => rfl
  | 2 => rfl
  | 3 => rfl
  | w + 4 => rfl
theorem k_zero {w kd : Nat} (hk : (kindsD w)[0]? = some kd) : kd = 0 := by
  match w, hk with
  | 0, hk => exact (Option.some.inj hk).symm
  | 1, hk => exact (Option.some.inj hk).symm
  | 2, hk => exact (Option.some.inj hk).symm
  | 3, hk => exact (Option.some.inj hk).symm
  | w + 4, hk => exact (Option.some.inj hk).symm
theorem odd0_l {a b c : Int × Int} {ys : List D} (h : D.lst ys ∈ oddD a b c 0) : ys = [] := by
  have h : D.lst ys ∈ ([.non, netD, .lst [], .str "net", .int 0, .bl true] : List D) := h
  simp only [List.mem_cons, List.not_mem_nil, or_false] at h
  rcases h with h | h | h | h | h | h
  · cases h
  · cases h
  · cases h; rfl
  · cases h
  · cases h
  · cases h
theorem odd_ok {a b c : Int × Int} (ha : FrOk a) (hb : FrOk b) (hc : FrOk c) {r : Int} {w pl kd : Nat} (hw : w < 7) (hk : (kindsD w)[pl]? = some kd) {d : D} (h : d ∈ oddD a b c kd) : OddOk w pl kd (phD a b c) r d := by
  have B := base_all ha hb hc h
  refine ⟨xc_all ha hb hc hw hk h, B.nb, B.op, B.nl, fun ys e => ?_⟩
  obtain ⟨b1, b2, b3, b4, b5, b6⟩ := B.li ys e
  refine ⟨b1, b2, b3, fun l hl => ?_, fun p R' P => ?_⟩
  · rcases rls_in hw hl with ⟨t, rfl⟩ | rfl | rfl
    · exact b6 t
    · exact b4
    · exact b5 w hw
  · cases pl with
    | succ pl =>
      have e0 := P.pre 0 (Nat.succ_pos _)
      rw [right_hd] at e0
      cases R' with
      | nil => cases e0
      | cons y t =>
        have e0 : some y = some madeD := e0
        cases Option.some.inj e0
        exact b6 t
    | zero =>
      cases k_zero hk
      subst e
      cases odd0_l h
      cases R' with
      | nil => have := P.at_; simp at this
      | cons y t => rfl

theorem later13 {w pl kd : Nat} (hw : w < 7) (hk : (kindsD w)[pl]? = some kd) (ph : D) (r : Int) (b : Sl) (R' : List D) (hl : R'.length = (rightD w ph r).length) :
    ∃ R'' s, law_way_right_hb_9 (slots0 w ph r ++ [.val (.int (pl : Nat)), b, .own R', .no]) = some (.nx, slots0 w ph r ++ [.val (.int (pl : Nat)), b, .own R'', s]) ∧ R''.length = R'.length ∧ ∀ j, j ≤ pl → R''[j]? = R'[j]? := by
  match w, hw with
  | 0, _ =>
    obtain ⟨y0, y1, y2, y3, rfl⟩ := list4 (show R'.length = 4 from hl)
    match pl, hk with
    | 0, _ => exact ⟨[y0, .non, .non, .non], .val (.int 3), by kernel_rfl, rfl, fun j hj => match j, hj with
      | 0, _ => rfl
      | j + 1, hj => absurd hj (by omega)⟩
    | 1, _ => exact ⟨[y0, y1, .non, .non], .val (.int 3), by kernel_rfl, rfl, fun j hj => match j, hj with
      | 0, _ => rfl
      | 1, _ => rfl
      | j + 2, hj => absurd hj (by omega)⟩
    | 2, _ => exact ⟨[y0, y1, y2, .non], .val (.int 3), by kernel_rfl, rfl, fun j hj => match j, hj with
      | 0, _ => rfl
      | 1, _ => rfl
      | 2, _ => rfl
      | j + 3, hj => absurd hj (by omega)⟩
    | 3, _ => exact ⟨[y0, y1, y2, y3], .no, by kernel_rfl, rfl, fun j hj => match j, hj with
      | 0, _ => rfl
      | 1, _ => rfl
      | 2, _ => rfl
      | 3, _ => rfl
      | j + 4, hj => absurd hj (by omega)⟩
    | pl + 4, hk => exact absurd (show (none : Option Nat) = some kd from hk) (by simp)
  | 1, _ =>
    obtain ⟨y0, y1, y2, y3, y4, rfl⟩ := list5 (show R'.length = 5 from hl)
    match pl, hk with
    | 0, _ => exact ⟨[y0, .non, .non, .non, .non], .val (.int 4), by kernel_rfl, rfl, fun j hj => match j, hj with
      | 0, _ => rfl
      | j + 1, hj => absurd hj (by omega)⟩
    | 1, _ => exact ⟨[y0, y1, .non, .non, .non], .val (.int 4), by kernel_rfl, rfl, fun j hj => match j, hj with
      | 0, _ => rfl
      | 1, _ => rfl
      | j + 2, hj => absurd hj (by omega)⟩
    | 2, _ => exact ⟨[y0, y1, y2, .non, .non], .val (.int 4), by kernel_rfl, rfl, fun j hj => match j, hj with
      | 0, _ => rfl
      | 1, _ => rfl
      | 2, _ => rfl
      | j + 3, hj => absurd hj (by omega)⟩
    | 3, _ => exact ⟨[y0, y1, y2, y3, .non], .val (.int 4), by kernel_rfl, rfl, fun j hj => match j, hj with
      | 0, _ => rfl
      | 1, _ => rfl
      | 2, _ => rfl
      | 3, _ => rfl
      | j + 4, hj => absurd hj (by omega)⟩
    | 4, _ => exact ⟨[y0, y1, y2, y3, y4], .no, by kernel_rfl, rfl, fun j hj => match j, hj with
      | 0, _ => rfl
      | 1, _ => rfl
      | 2, _ => rfl
      | 3, _ => rfl
      | 4, _ => rfl
      | j + 5, hj => absurd hj (by omega)⟩
    | pl + 5, hk => exact absurd (show (none : Option Nat) = some kd from hk) (by simp)
  | 2, _ =>
    obtain ⟨y0, y1, y2, y3, rfl⟩ := list4 (show R'.length = 4 from hl)
    match pl, hk with
    | 0, _ => exact ⟨[y0, .non, .non, .non], .val (.int 3), by kernel_rfl, rfl, fun j hj => match j, hj with
      | 0, _ => rfl
      | j + 1, hj => absurd hj (by omega)⟩
    | 1, _ => exact ⟨[y0, y1, .non, .non], .val (.int 3), by kernel_rfl, rfl, fun j hj => match j, hj with
      | 0, _ => rfl
      | 1, _ => rfl
      | j + 2, hj => absurd hj (by omega)⟩
    | 2, _ => exact ⟨[y0, y1, y2, .non], .val (.int 3), by kernel_rfl, rfl, fun j hj => match j, hj with
      | 0, _ => rfl
      | 1, _ => rfl
      | 2, _ => rfl
      | j + 3, hj => absurd hj (by omega)⟩
    | 3, _ => exact ⟨[y0, y1, y2, y3], .no, by kernel_rfl, rfl, fun j hj => match j, hj with
      | 0, _ => rfl
      | 1, _ => rfl
      | 2, _ => rfl
      | 3, _ => rfl
      | j + 4, hj => absurd hj (by omega)⟩
    | pl + 4, hk => exact absurd (show (none : Option Nat) = some kd from hk) (by simp)
  | 3, _ =>
    obtain ⟨y0, y1, y2, y3, rfl⟩ := list4 (show R'.length = 4 from hl)
    match pl, hk with
    | 0, _ => exact ⟨[y0, .non, .non, .non], .val (.int 3), by kernel_rfl, rfl, fun j hj => match j, hj with
      | 0, _ => rfl
      | j + 1, hj => absurd hj (by omega)⟩
    | 1, _ => exact ⟨[y0, y1, .non, .non], .val (.int 3), by kernel_rfl, rfl, fun j hj => match j, hj with
      | 0, _ => rfl
      | 1, _ => rfl
      | j + 2, hj => absurd hj (by omega)⟩
    | 2, _ => exact ⟨[y0, y1, y2, .non], .val (.int 3), by kernel_rfl, rfl, fun j hj => match j, hj with
      | 0, _ => rfl
      | 1, _ => rfl
      | 2, _ => rfl
      | j + 3, hj => absurd hj (by omega)⟩
    | 3, _ => exact ⟨[y0, y1, y2, y3], .no, by kernel_rfl, rfl, fun j hj => match j, hj with
      | 0, _ => rfl
      | 1, _ => rfl
      | 2, _ => rfl
      | 3, _ => rfl
      | j + 4, hj => absurd hj (by omega)⟩
    | pl + 4, hk => exact absurd (show (none : Option Nat) = some kd from hk) (by simp)
  | 4, _ =>
    obtain ⟨y0, y1, y2, rfl⟩ := list3 (show R'.length = 3 from hl)
    match pl, hk with
    | 0, _ => exact ⟨[y0, .non, .non], .val (.int 2), by kernel_rfl, rfl, fun j hj => match j, hj with
      | 0, _ => rfl
      | j + 1, hj => absurd hj (by omega)⟩
    | 1, _ => exact ⟨[y0, y1, .non], .val (.int 2), by kernel_rfl, rfl, fun j hj => match j, hj with
      | 0, _ => rfl
      | 1, _ => rfl
      | j + 2, hj => absurd hj (by omega)⟩
    | 2, _ => exact ⟨[y0, y1, y2], .no, by kernel_rfl, rfl, fun j hj => match j, hj with
      | 0, _ => rfl
      | 1, _ => rfl
      | 2, _ => rfl
      | j + 3, hj => absurd hj (by omega)⟩
    | pl + 3, hk => exact absurd (show (none : Option Nat) = some kd from hk) (by simp)
  | 5, _ =>
    obtain ⟨y0, y1, y2, rfl⟩ := list3 (show R'.length = 3 from hl)
    match pl, hk with
    | 0, _ => exact ⟨[y0, .non, .non], .val (.int 2), by kernel_rfl, rfl, fun j hj => match j, hj with
      | 0, _ => rfl
      | j + 1, hj => absurd hj (by omega)⟩
    | 1, _ => exact ⟨[y0, y1, .non], .val (.int 2), by kernel_rfl, rfl, fun j hj => match j, hj with
      | 0, _ => rfl
      | 1, _ => rfl
      | j + 2, hj => absurd hj (by omega)⟩
    | 2, _ => exact ⟨[y0, y1, y2], .no, by kernel_rfl, rfl, fun j hj => match j, hj with
      | 0, _ => rfl
      | 1, _ => rfl
      | 2, _ => rfl
      | j + 3, hj => absurd hj (by omega)⟩
    | pl + 3, hk => exact absurd (show (none : Option Nat) = some kd from hk) (by simp)
  | 6, _ =>
    obtain ⟨y0, y1, y2, rfl⟩ := list3 (show R'.length = 3 from hl)
    match pl, hk with
    | 0, _ => exact ⟨[y0, .non, .non], .val (.int 2), by kernel_rfl, rfl, fun j hj => match j, hj with
      | 0, _ => rfl
      | j + 1, hj => absurd hj (by omega)⟩
    | 1, _ => exact ⟨[y0, y1, .non], .val (.int 2), by kernel_rfl, rfl, fun j hj => match j, hj with
      | 0, _ => rfl
      | 1, _ => rfl
      | j + 2, hj => absurd hj (by omega)⟩
    | 2, _ => exact ⟨[y0, y1, y2], .no, by kernel_rfl, rfl, fun j hj => match j, hj with
      | 0, _ => rfl
      | 1, _ => rfl
      | 2, _ => rfl
      | j + 3, hj => absurd hj (by omega)⟩
    | pl + 3, hk => exact absurd (show (none : Option Nat) = some kd from hk) (by simp)
theorem odds13 {a b c : Int × Int} {w kd : Nat} (hk : kd ∈ kindsD w) : (∃ o, m_law_odd [.val (.int (kd : Nat)), .val netD, .val (phD a b c), .val pathD] = some (.lst (od13 (phD a b c) kd), o)) ∧ (od13 (phD a b c) kd).length ≤ 1000 := by
  have h5 : kd < 5 := by
    match w, hk with
    | 0, h => have h : kd ∈ [0, 1, 2, 4] := h; simp at h; omega
    | 1, h => have h : kd ∈ [0, 1, 2, 2, 4] := h; simp at h; omega
    | 2, h => have h : kd ∈ [0, 1, 3, 4] := h; simp at h; omega
    | 3, h => have h : kd ∈ [0, 1, 3, 4] := h; simp at h; omega
    | w + 4, h => have h : kd ∈ [0, 1, 3] := h; simp at h; omega
  match kd, h5 with
  | 0, _ => exact ⟨⟨_, odd_eq0 a b c⟩, Nat.le_of_ble_eq_true rfl⟩
  | 1, _ => exact ⟨⟨_, odd_eq1 a b c⟩, Nat.le_of_ble_eq_true rfl⟩
  | 2, _ => exact ⟨⟨_, odd_eq2 a b c⟩, Nat.le_of_ble_eq_true rfl⟩
  | 3, _ => exact ⟨⟨_, odd_eq3 a b c⟩, Nat.le_of_ble_eq_true rfl⟩
  | 4, _ => exact ⟨⟨_, odd_eq4 a b c⟩, Nat.le_of_ble_eq_true rfl⟩
theorem kinds13 {w : Nat} (hw : w < 7) : ∃ o, m_law_kinds [.val (.int (w : Nat))] = some (.lst (kiD w), o) := by
  match w, hw with
  | 0, _ => exact ⟨[], by kernel_rfl⟩
  | 1, _ => exact ⟨[], by kernel_rfl⟩
  | 2, _ => exact ⟨[], by kernel_rfl⟩
  | 3, _ => exact ⟨[], by kernel_rfl⟩
  | 4, _ => exact ⟨[], by kernel_rfl⟩
  | 5, _ => exact ⟨[], by kernel_rfl⟩
  | 6, _ => exact ⟨[], by kernel_rfl⟩
theorem pn13 {w : Nat} (hw : w < 7) (a b c : Int × Int) (r : Int) : (slots0 w (phD a b c) r).all slP = true := by
  match w, hw with
  | 0, _ => kernel_rfl
  | 1, _ => kernel_rfl
  | 2, _ => kernel_rfl
  | 3, _ => kernel_rfl
  | 4, _ => kernel_rfl
  | 5, _ => kernel_rfl
  | 6, _ => kernel_rfl
theorem way13 : ∀ w ph r, w < 7 → Ph13 ph → WayOk w ph r (od13 ph) := by
  intro w ph r hw ⟨a, b, c, ha, hb, hc, e⟩
  subst e
  exact ⟨kinds13 hw, fun kd hk => odds13 hk, fun pl kd hk d h => odd_ok ha hb hc hw hk h, pn13 hw a b c r, fun pl kd hk b' R' hl => later13 hw hk _ r b' R' hl⟩
theorem called13 : ∀ w ph r, w < 7 → Ph13 ph → Sm 100 r → ∃ x o, m_law_called [.val (.int (w : Nat)), .val (.lst (rightD w ph r))] = some (x, o) := by
  intro w ph r hw ⟨a, b, c, ha, hb, hc, e⟩ sr
  subst e
  have F : ∀ q ∈ [a, b, c], FrOk q := fun q hq => by
    simp only [List.mem_cons, List.not_mem_nil, or_false] at hq
    rcases hq with rfl | rfl | rfl <;> assumption
  have H : Phs [a, b, c] := by
    refine ⟨fun q hq => ?_, (show 3 ≤ 6 by decide)⟩
    have w := F q hq
    unfold FrOk at w
    have s : ∀ {i : Int}, -1000000 ≤ i → i ≤ 1000000 → Sm 60 i := fun {i} a b => by
      have z : (1000000 : Nat) < 2 ^ 60 := by decide
      unfold Sm
      omega
    exact ⟨w.1, s (by omega) (by omega), s (by omega) (by omega)⟩
  match w, hw with
  | 0, _ => exact fits_0 (ph := [a, b, c]) H rfl sr
  | 1, _ => exact fits_1 (ph := [a, b, c]) H rfl sr
  | 2, _ => exact fits_2 (ph := [a, b, c]) H rfl sr
  | 3, _ => exact fits_3 (ph := [a, b, c]) H rfl sr
  | 4, _ => exact fits_4 (ph := [a, b, c]) H rfl sr
  | 5, _ => exact fits_5 (ph := [a, b, c]) H rfl sr
  | 6, _ => exact fits_6 (ph := [a, b, c]) H rfl sr
theorem start13 (ns : List Int) : ∃ xs1 xs3 xs4 ph r, Ph13 ph ∧ Sm 100 r ∧ hb_1 [.val (.scr (ns.map .int)), .no, .no, .no, .no, .no, .no, .no, .no] = some (.nx, [.val (.scr (ns.map .int)), .own xs1, .no, .no, .no, .no, .no, .no, .no]) ∧
    hb_3 [.val (.scr (ns.map .int)), .own xs1, .val netD, .no, .no, .no, .no, .no, .no] = some (.nx, [.val (.scr (ns.map .int)), .own xs3, .val netD, .val madeD, .val ph, .val pathD, .no, .no, .no]) ∧
    hb_4 [.val (.scr (ns.map .int)), .own xs3, .val netD, .val madeD, .val ph, .val pathD, .no, .no, .no] = some (.nx, [.val (.scr (ns.map .int)), .own xs4, .val netD, .val madeD, .val ph, .val pathD, .val (.int r), .no, .no]) := by
  obtain ⟨q0, e0, h0⟩ := law_purse_eq ns 0
  obtain ⟨ph, q1, e1, f1, P1, l1, h1⟩ := law_phases_fr N13 h0 (by omega)
  obtain ⟨r, q2, e2, sr, h2⟩ := law_run_eq h1 (by omega)
  obtain ⟨a, b, c, rfl⟩ := list3 (show ph.length = 3 from l1)
  have mk : m_law_made [.val netD] = some (madeD, []) := by kernel_rfl
  refine ⟨q0, q1, q2, phD a b c, r, ⟨a, b, c, f1 a (by simp), f1 b (by simp), f1 c (by simp), rfl⟩, sr, Toy.kOwnC_too (Toy.aC_of rfl (Toy.aC_of rfl rfl)) rfl e0 rfl, ?_, ?_⟩
  · refine Toy.kTup_of (Toy.sL_of (Toy.aC_of (Toy.sCall_of (Toy.aC_of rfl rfl) rfl mk) (Toy.aC_of (Toy.callM rfl (Toy.aC_of rfl rfl) rfl rfl e1 rfl) (Toy.aC_of rfl rfl))) rfl) rfl
  · exact Toy.kSet_too (Toy.callM rfl rfl rfl rfl e2 rfl) rfl
theorem fin_pn : ∀ ph r, Ph13 ph → (slotsL ph r).all slP = true ∧ ∀ l ∈ rls (slotsL ph r), apt l [.str "b", .str "a"] = true := by
  intro ph r ⟨a, b, c, ha, hb, hc, e⟩
  subst e
  refine ⟨by kernel_rfl, fun l hl => ?_⟩
  have h : (rls (slotsL (phD a b c) r)).all (fun l => apt l [.str "b", .str "a"]) = true := by kernel_rfl
  exact List.all_eq_true.mp h l hl
theorem facts13 : LawFacts Ph13 (Sm 100) od13 where
  start := fun ns _ => start13 ns
  called := called13
  way := way13
  pn := fin_pn
  e1 := fun ph r ⟨a, b, c, ha, hb, hc, e⟩ => by
    subst e
    exact ⟨rfl, fun p => ⟨_, called_1 (newest_2 (cnp_made ha hb hc) name_b (by kernel_rfl)), by simp [Kinds13]⟩, rfl, opt_of (shK (n := 400) rfl (by decide +kernel)) rfl rfl, fun _ => rfl, fun ys e => by cases e⟩
  e2 := fun ph r ⟨a, b, c, ha, hb, hc, e⟩ => by
    subst e
    exact ⟨rfl, fun p => ⟨_, called_1 (newest_2 (cnp_made ha hb hc) name_a (by kernel_rfl)), by simp [Kinds13]⟩, rfl, opt_of (shK (n := 400) rfl (by decide +kernel)) rfl rfl, fun _ => rfl, fun ys e => by cases e⟩
  e3 := fun ph ⟨a, b, c, ha, hb, hc, e⟩ => by
    subst e
    exact ⟨rfl, fun p => ⟨5, called_4 (ages_1 (cnp_made ha hb hc) (by kernel_rfl)), by simp [Kinds13]⟩, rfl, opt_of (shK (n := 400) rfl (by decide +kernel)) rfl rfl, fun h => absurd rfl (h _), fun ys e => by
      cases e
      exact ⟨rfl, by decide, opt_of (shK (n := 400) rfl (by decide +kernel)) rfl rfl, fun p => by kernel_rfl⟩⟩
  e4 := fun ph ⟨a, b, c, ha, hb, hc, e⟩ => by
    subst e
    exact ⟨rfl, fun p => ⟨5, called_6 (uses_1 (cnp_made ha hb hc) (by kernel_rfl)), by simp [Kinds13]⟩, rfl, opt_of (shK (n := 400) rfl (by decide +kernel)) rfl rfl, fun h => absurd rfl (h _), fun ys e => by
      cases e
      exact ⟨rfl, by decide, opt_of (shK (n := 400) rfl (by decide +kernel)) rfl rfl, fun p => by kernel_rfl⟩⟩
end Toy.R13
namespace Toy
open PySem PySem.Spec PyProof.Rows L2 VS
theorem law_refused_len {G : Gx} : ∀ us H Q E, R13.spRef G us H Q E → us.length = 4 := fun us H Q E ⟨F, vg, w, pl, kd, ds, d, k, h1, h2, h3, _⟩ => by subst h3; rfl
theorem law_refused_ok {G : Gx} : ∀ us H Q E, R13.spRef G us H Q E → law_refused_T G { nx := fun _ H1 => Q .non H1, rt := Q } (L2.start N_law_refused us) H := R13.refused_ok
theorem law_way_right_len {G : Gx} : ∀ us H Q E, R13.spWay G R13.Ph13 us H Q E → us.length = 5 := fun us H Q E ⟨F, v1, v2, v3, v4, w, ph, r, h1, h2, h3, _⟩ => by subst h3; rfl
theorem law_way_right_ok {G : Gx} : ∀ us H Q E, R13.spWay G R13.Ph13 us H Q E → law_way_right_T G (R13.spRef G) { nx := fun _ H1 => Q .non H1, rt := Q } (L2.start N_law_way_right us) H := R13.way_ok R13.way13
theorem law_all {G : Gx} : LawOk G (R13.spWay G R13.Ph13) (R13.spRef G) := R13.law_ok R13.facts13
end Toy

set_option Elab.async false
set_option linter.all false
set_option maxRecDepth 100000
set_option maxHeartbeats 8000000
namespace Toy
open PySem PySem.Spec PyProof.Rows L2 VS
def clsA (K0 : Addr) (K1 : Addr) (ea0 : Addr) (ea1 : Addr) (ea2 : Addr) (ea3 : Addr) (ea4 : Addr) (ea5 : Addr) : Nat → Addr
  | 0 => K0
  | 1 => K1
  | 2 => ea0
  | 3 => ea1
  | 4 => ea2
  | 5 => ea3
  | 6 => ea4
  | _ => ea5
def fldA : Nat → List Str
  | 0 => ["label", "turn", "lag", "sources"]
  | 1 => ["nodes"]
  | _ => []
theorem all_mk {l : PySem.W.OpenLaw} {w : World} {K : PySem.W.Frag} {h : Heap} {mg : Str → Option Value} {fa K0 K1 f0 f1 f2 f3 f4 f5 f6 f7 f8 f9 f10 f11 f12 f13 f14 f15 f16 f17 f18 f19 f20 f21 f22 f23 f24 f25 f26 f27 f28 f29 f30 f31 f32 f33 f34 f35 f36 f37 f38 f39 f40 f41 f42 f43 f44 f45 f46 f47 f48 f49 f50 f51 f52 f53 f54 f55 f56 f57 f58 f59 f60 f61 f62  : Addr} (X : K.In h) (G : h.Ns mainGlobals mg) (hfa : mg "law" = some (.ref fa))
    {od0 an0 od1 an1 od2 an2 od3 an3 od4 an4 od5 an5 od6 an6 od7 an7 od8 an8 od9 an9 od10 an10 od11 an11 od12 an12 od13 an13 od14 an14 od15 an15 od16 an16 od17 an17 od18 an18 od19 an19 od20 an20 od21 an21 od22 an22 od23 an23 od24 an24 od25 an25 od26 an26 od27 an27 od28 an28 od29 an29 od30 an30 od31 an31 od32 an32 od33 an33 od34 an34 od35 an35 od36 an36 od37 an37 od38 an38 od39 an39 od40 an40 od41 an41 od42 an42 od43 an43 od44 an44 od45 an45 od46 an46 od47 an47 od48 an48 od49 an49 od50 an50 od51 an51 od52 an52 od53 an53 od54 an54 od55 an55 od56 an56 od57 an57 od58 an58 od59 an59 od60 an60 od61 an61 od62 an62 : Option Addr} {sl0 sl1 sl2 sl3 sl4 sl5 sl6 sl7 sl8 sl9 sl10 sl11 sl12 sl13 sl14 sl15 sl16 sl17 sl18 sl19 sl20 sl21 sl22 sl23 sl24 sl25 sl26 sl27 sl28 sl29 sl30 sl31 sl32 sl33 sl34 sl35 sl36 sl37 sl38 sl39 sl40 sl41 sl42 sl43 sl44 sl45 sl46 sl47 sl48 sl49 sl50 sl51 sl52 sl53 sl54 sl55 sl56 sl57 sl58 sl59 sl60 sl61 sl62 : Array (Option Value)} {oc0 kV0 dc0 pm0 cd0 ct0 oc1 kV1 dc1 pm1 cd1 ct1 oc2 kV2 dc2 pm2 cd2 ct2 oc3 kV3 dc3 pm3 cd3 ct3 oc4 kV4 dc4 pm4 cd4 ct4 oc5 kV5 dc5 pm5 cd5 ct5 oc6 kV6 dc6 pm6 cd6 ct6 oc7 kV7 dc7 pm7 cd7 ct7 oc8 kV8 dc8 pm8 cd8 ct8 oc9 kV9 dc9 pm9 cd9 ct9 oc10 kV10 dc10 pm10 cd10 ct10 oc11 kV11 dc11 pm11 cd11 ct11 oc12 kV12 dc12 pm12 cd12 ct12 oc13 kV13 dc13 pm13 cd13 ct13 oc14 kV14 dc14 pm14 cd14 ct14 oc15 kV15 dc15 pm15 cd15 ct15 oc16 kV16 dc16 pm16 cd16 ct16 oc17 kV17 dc17 pm17 cd17 ct17 oc18 kV18 dc18 pm18 cd18 ct18 oc19 kV19 dc19 pm19 cd19 ct19 oc20 kV20 dc20 pm20 cd20 ct20 oc21 kV21 dc21 pm21 cd21 ct21 oc22 kV22 dc22 pm22 cd22 ct22 oc23 kV23 dc23 pm23 cd23 ct23 oc24 kV24 dc24 pm24 cd24 ct24 oc25 kV25 dc25 pm25 cd25 ct25 oc26 kV26 dc26 pm26 cd26 ct26 oc27 kV27 dc27 pm27 cd27 ct27 oc28 kV28 dc28 pm28 cd28 ct28 oc29 kV29 dc29 pm29 cd29 ct29 oc30 kV30 dc30 pm30 cd30 ct30 oc31 kV31 dc31 pm31 cd31 ct31 oc32 kV32 dc32 pm32 cd32 ct32 oc33 kV33 dc33 pm33 cd33 ct33 oc34 kV34 dc34 pm34 cd34 ct34 oc35 kV35 dc35 pm35 cd35 ct35 oc36 kV36 dc36 pm36 cd36 ct36 oc37 kV37 dc37 pm37 cd37 ct37 oc38 kV38 dc38 pm38 cd38 ct38 oc39 kV39 dc39 pm39 cd39 ct39 oc40 kV40 dc40 pm40 cd40 ct40 oc41 kV41 dc41 pm41 cd41 ct41 oc42 kV42 dc42 pm42 cd42 ct42 oc43 kV43 dc43 pm43 cd43 ct43 oc44 kV44 dc44 pm44 cd44 ct44 oc45 kV45 dc45 pm45 cd45 ct45 oc46 kV46 dc46 pm46 cd46 ct46 oc47 kV47 dc47 pm47 cd47 ct47 oc48 kV48 dc48 pm48 cd48 ct48 oc49 kV49 dc49 pm49 cd49 ct49 oc50 kV50 dc50 pm50 cd50 ct50 oc51 kV51 dc51 pm51 cd51 ct51 oc52 kV52 dc52 pm52 cd52 ct52 oc53 kV53 dc53 pm53 cd53 ct53 oc54 kV54 dc54 pm54 cd54 ct54 oc55 kV55 dc55 pm55 cd55 ct55 oc56 kV56 dc56 pm56 cd56 ct56 oc57 kV57 dc57 pm57 cd57 ct57 oc58 kV58 dc58 pm58 cd58 ct58 oc59 kV59 dc59 pm59 cd59 ct59 oc60 kV60 dc60 pm60 cd60 ct60 oc61 kV61 dc61 pm61 cd61 ct61 oc62 kV62 dc62 pm62 cd62 ct62 : Value} 
    {ea0 : Addr}
    {ea1 ef1 eq1 ec1 et1 eN1 : Addr} {eoc1 ekV1 edc1 epm1 ect1 eqc1 ecl1 etc1 : Value} {eod1 ean1 eqd1 ecd1 etd1 edd1 : Option Addr} {esl1 eqm1 ecs1 ets1 : Array (Option Value)} {eqv1 : Array Value} {efl1 enm1 eqn1 : Str} {eft1 : Tok} {etn1 : Nat} {ebs1 ebm1 esb1 : List Value} {esn1 : List Str} {eab1 : Bool} {ecol1 : Option Bool} {ek01 ek11 ek21 ek31 ek51 : Option Value}
    {ea2 ef2 eq2 ec2 et2 eN2 : Addr} {eoc2 ekV2 edc2 epm2 ect2 eqc2 ecl2 etc2 : Value} {eod2 ean2 eqd2 ecd2 etd2 edd2 : Option Addr} {esl2 eqm2 ecs2 ets2 : Array (Option Value)} {eqv2 : Array Value} {efl2 enm2 eqn2 : Str} {eft2 : Tok} {etn2 : Nat} {ebs2 ebm2 esb2 : List Value} {esn2 : List Str} {eab2 : Bool} {ecol2 : Option Bool} {ek02 ek12 ek22 ek32 ek52 : Option Value}
    {ea3 ef3 eq3 ec3 et3 eN3 : Addr} {eoc3 ekV3 edc3 epm3 ect3 eqc3 ecl3 etc3 : Value} {eod3 ean3 eqd3 ecd3 etd3 edd3 : Option Addr} {esl3 eqm3 ecs3 ets3 : Array (Option Value)} {eqv3 : Array Value} {efl3 enm3 eqn3 : Str} {eft3 : Tok} {etn3 : Nat} {ebs3 ebm3 esb3 : List Value} {esn3 : List Str} {eab3 : Bool} {ecol3 : Option Bool} {ek03 ek13 ek23 ek33 ek53 : Option Value}
    {ea4 ef4 eq4 ec4 et4 eN4 : Addr} {eoc4 ekV4 edc4 epm4 ect4 eqc4 ecl4 etc4 : Value} {eod4 ean4 eqd4 ecd4 etd4 edd4 : Option Addr} {esl4 eqm4 ecs4 ets4 : Array (Option Value)} {eqv4 : Array Value} {efl4 enm4 eqn4 : Str} {eft4 : Tok} {etn4 : Nat} {ebs4 ebm4 esb4 : List Value} {esn4 : List Str} {eab4 : Bool} {ecol4 : Option Bool} {ek04 ek14 ek24 ek34 ek54 : Option Value}
    {ea5 ef5 eq5 ec5 et5 eN5 : Addr} {eoc5 ekV5 edc5 epm5 ect5 eqc5 ecl5 etc5 : Value} {eod5 ean5 eqd5 ecd5 etd5 edd5 : Option Addr} {esl5 eqm5 ecs5 ets5 : Array (Option Value)} {eqv5 : Array Value} {efl5 enm5 eqn5 : Str} {eft5 : Tok} {etn5 : Nat} {ebs5 ebm5 esb5 : List Value} {esn5 : List Str} {eab5 : Bool} {ecol5 : Option Bool} {ek05 ek15 ek25 ek35 ek55 : Option Value}
    {eB_AgedReadsError : Addr}
    {t_LETTERS : Tok}
    (aC0 : PySem.W.nsIn K mainGlobals "Step" = some (some (.ref K0)))
    (pg0 : PySem.W.plainGet K K0 Str.empty = true)
    (hd0 : PySem.W.hasDictIn K K0 = true)
    (po0 : PySem.W.plainOver K K0 = true)
    (sa0 : PySem.W.findIn K (.ref K0) "__setattr__" = some (some (.builtin "object.__setattr__")))
    (mk0 : PySem.W.makesIn K K0 = true)
    (kc0 : PySem.W.keepIn K (.ref K0) = true)
    (ha0 : PySem.W.findIn K (.ref K0) "__class__" = some (some (.builtin "object.__class__")))
    (mr0 : PySem.W.mroIn K K0 (.type "object") = some true)
    (na0_label : PySem.W.findIn K (.ref K0) "label" = some none)
    (na0_turn : PySem.W.findIn K (.ref K0) "turn" = some none)
    (na0_lag : PySem.W.findIn K (.ref K0) "lag" = some none)
    (na0_sources : PySem.W.findIn K (.ref K0) "sources" = some none)
    (kb0_NoneType : PySem.W.kitOne K (.type "NoneType") (.ref K0) = some false)
    (kb0_bool : PySem.W.kitOne K (.type "bool") (.ref K0) = some false)
    (kb0_int : PySem.W.kitOne K (.type "int") (.ref K0) = some false)
    (kb0_str : PySem.W.kitOne K (.type "str") (.ref K0) = some false)
    (kb0_list : PySem.W.kitOne K (.type "list") (.ref K0) = some false)
    (kb0_tuple : PySem.W.kitOne K (.type "tuple") (.ref K0) = some false)
    (kb0_dict : PySem.W.kitOne K (.type "dict") (.ref K0) = some false)
    (aC1 : PySem.W.nsIn K mainGlobals "Net" = some (some (.ref K1)))
    (pg1 : PySem.W.plainGet K K1 Str.empty = true)
    (hd1 : PySem.W.hasDictIn K K1 = true)
    (po1 : PySem.W.plainOver K K1 = true)
    (sa1 : PySem.W.findIn K (.ref K1) "__setattr__" = some (some (.builtin "object.__setattr__")))
    (mk1 : PySem.W.makesIn K K1 = true)
    (kc1 : PySem.W.keepIn K (.ref K1) = true)
    (ha1 : PySem.W.findIn K (.ref K1) "__class__" = some (some (.builtin "object.__class__")))
    (mr1 : PySem.W.mroIn K K1 (.type "object") = some true)
    (na1_nodes : PySem.W.findIn K (.ref K1) "nodes" = some none)
    (kb1_NoneType : PySem.W.kitOne K (.type "NoneType") (.ref K1) = some false)
    (kb1_bool : PySem.W.kitOne K (.type "bool") (.ref K1) = some false)
    (kb1_int : PySem.W.kitOne K (.type "int") (.ref K1) = some false)
    (kb1_str : PySem.W.kitOne K (.type "str") (.ref K1) = some false)
    (kb1_list : PySem.W.kitOne K (.type "list") (.ref K1) = some false)
    (kb1_tuple : PySem.W.kitOne K (.type "tuple") (.ref K1) = some false)
    (kb1_dict : PySem.W.kitOne K (.type "dict") (.ref K1) = some false)
    (xa0 : PySem.W.nsIn K mainGlobals "InvalidStep" = some (some (.ref ea0)))
    (xx0 : PySem.W.subIn K (.ref ea0) (.type "BaseException") = some true)
    (xy0 : PySem.W.typeIn K (.ref ea0) = some (.type "type"))
    (xw0 : PySem.W.findIn K (.ref ea0) "value" = some none)
    (xg0 : PySem.W.findIn K (.ref ea0) "__getattribute__" = some (some (.builtin "BaseException.__getattribute__")))
    (xh0 : PySem.W.findIn K (.ref ea0) "__getattr__" = some none)
    (xn0 : PySem.W.hasDictIn K ea0 = true)
    (xa1 : PySem.W.nsIn K mainGlobals "InvalidNet" = some (some (.ref ea1)))
    (xi1 : PySem.W.findIn K (.ref ea1) "__init__" = some (some (.ref ef1)))
    (xl1 : K.lookup ef1 = some ⟨eoc1, eod1, .func (PySem.W.fnX "__init__" "InvalidNet.__init__" (defArgs s_InvalidNet_init) (defBody s_InvalidNet_init) (defScope s_InvalidNet_init) [("__class__", ec1)] (.ref et1) ekV1 edc1 epm1 ean1 (.ref eq1) ect1), esl1⟩)
    (xc1 : PySem.W.codeIn K (.ref eq1) "InvalidNet.__init__" = true)
    (xq1 : K.lookup eq1 = some ⟨eqc1, eqd1, .fields eqv1, eqm1⟩)
    (xv1 : eqv1[2]? = some (.str efl1 eft1))
    (xf1 : ((l.prog.main.file : Str) == efl1) = true)
    (xe1 : K.lookup ec1 = some ⟨ecl1, ecd1, .cell (some (.ref ea1)), ecs1⟩)
    (xt1 : K.lookup et1 = some ⟨etc1, etd1, .seq #[.none] etn1, ets1⟩)
    (xp1 : (l.prog.main.scope.names.lookup ("super" : Str)).isSome = false)
    (xC1 : K.lookup ea1 = some (excClassObj enm1 eqn1 ea1 eN1 ebs1 ebm1 true esn1 esb1 eab1 ecol1 edd1 ek01 ek11 ek21 ek31 ek51 "ValueError.__new__"))
    (xb1 : PySem.HandSPX.refsVE ebm1 = true)
    (xs1 : PySem.W.findIn K (.ref ea1) "__setattr__" = some (some (.builtin "object.__setattr__")))
    (xx1 : PySem.W.subIn K (.ref ea1) (.type "BaseException") = some true)
    (xy1 : PySem.W.typeIn K (.ref ea1) = some (.type "type"))
    (xk1 : PySem.W.keepIn K (.ref ea1) = true)
    (xu1 : PySem.W.ks_superIn K ea1 ea1 "__init__" = some (some (.builtin "ValueError.__init__")))
    (xo1 : PySem.W.nsIn K cStatics "thirdparty.any" = some none)
    (xw1 : PySem.W.findIn K (.ref ea1) "value" = some none)
    (xt_1 : PySem.W.typeIn K (.ref ef1) = some (.type "function"))
    (xm1 : PySem.W.mroIn K ea1 (.ref ea1) = some true)
    (xd1 : PySem.W.subIn K (.ref ea1) (.type "ValueError") = some true)
    (xg1 : PySem.W.findIn K (.ref ea1) "__getattribute__" = some (some (.builtin "BaseException.__getattribute__")))
    (xh1 : PySem.W.findIn K (.ref ea1) "__getattr__" = some none)
    (xn1 : PySem.W.hasDictIn K ea1 = true)
    (xa2 : PySem.W.nsIn K mainGlobals "InvalidPhases" = some (some (.ref ea2)))
    (xi2 : PySem.W.findIn K (.ref ea2) "__init__" = some (some (.ref ef2)))
    (xl2 : K.lookup ef2 = some ⟨eoc2, eod2, .func (PySem.W.fnX "__init__" "InvalidPhases.__init__" (defArgs s_InvalidPhases_init) (defBody s_InvalidPhases_init) (defScope s_InvalidPhases_init) [("__class__", ec2)] (.ref et2) ekV2 edc2 epm2 ean2 (.ref eq2) ect2), esl2⟩)
    (xc2 : PySem.W.codeIn K (.ref eq2) "InvalidPhases.__init__" = true)
    (xq2 : K.lookup eq2 = some ⟨eqc2, eqd2, .fields eqv2, eqm2⟩)
    (xv2 : eqv2[2]? = some (.str efl2 eft2))
    (xf2 : ((l.prog.main.file : Str) == efl2) = true)
    (xe2 : K.lookup ec2 = some ⟨ecl2, ecd2, .cell (some (.ref ea2)), ecs2⟩)
    (xt2 : K.lookup et2 = some ⟨etc2, etd2, .seq #[.none] etn2, ets2⟩)
    (xp2 : (l.prog.main.scope.names.lookup ("super" : Str)).isSome = false)
    (xC2 : K.lookup ea2 = some (excClassObj enm2 eqn2 ea2 eN2 ebs2 ebm2 true esn2 esb2 eab2 ecol2 edd2 ek02 ek12 ek22 ek32 ek52 "ValueError.__new__"))
    (xb2 : PySem.HandSPX.refsVE ebm2 = true)
    (xs2 : PySem.W.findIn K (.ref ea2) "__setattr__" = some (some (.builtin "object.__setattr__")))
    (xx2 : PySem.W.subIn K (.ref ea2) (.type "BaseException") = some true)
    (xy2 : PySem.W.typeIn K (.ref ea2) = some (.type "type"))
    (xk2 : PySem.W.keepIn K (.ref ea2) = true)
    (xu2 : PySem.W.ks_superIn K ea2 ea2 "__init__" = some (some (.builtin "ValueError.__init__")))
    (xo2 : PySem.W.nsIn K cStatics "thirdparty.any" = some none)
    (xw2 : PySem.W.findIn K (.ref ea2) "value" = some none)
    (xt_2 : PySem.W.typeIn K (.ref ef2) = some (.type "function"))
    (xm2 : PySem.W.mroIn K ea2 (.ref ea2) = some true)
    (xd2 : PySem.W.subIn K (.ref ea2) (.type "ValueError") = some true)
    (xg2 : PySem.W.findIn K (.ref ea2) "__getattribute__" = some (some (.builtin "BaseException.__getattribute__")))
    (xh2 : PySem.W.findIn K (.ref ea2) "__getattr__" = some none)
    (xn2 : PySem.W.hasDictIn K ea2 = true)
    (xa3 : PySem.W.nsIn K mainGlobals "InvalidPath" = some (some (.ref ea3)))
    (xi3 : PySem.W.findIn K (.ref ea3) "__init__" = some (some (.ref ef3)))
    (xl3 : K.lookup ef3 = some ⟨eoc3, eod3, .func (PySem.W.fnX "__init__" "InvalidPath.__init__" (defArgs s_InvalidPath_init) (defBody s_InvalidPath_init) (defScope s_InvalidPath_init) [("__class__", ec3)] (.ref et3) ekV3 edc3 epm3 ean3 (.ref eq3) ect3), esl3⟩)
    (xc3 : PySem.W.codeIn K (.ref eq3) "InvalidPath.__init__" = true)
    (xq3 : K.lookup eq3 = some ⟨eqc3, eqd3, .fields eqv3, eqm3⟩)
    (xv3 : eqv3[2]? = some (.str efl3 eft3))
    (xf3 : ((l.prog.main.file : Str) == efl3) = true)
    (xe3 : K.lookup ec3 = some ⟨ecl3, ecd3, .cell (some (.ref ea3)), ecs3⟩)
    (xt3 : K.lookup et3 = some ⟨etc3, etd3, .seq #[.none] etn3, ets3⟩)
    (xp3 : (l.prog.main.scope.names.lookup ("super" : Str)).isSome = false)
    (xC3 : K.lookup ea3 = some (excClassObj enm3 eqn3 ea3 eN3 ebs3 ebm3 true esn3 esb3 eab3 ecol3 edd3 ek03 ek13 ek23 ek33 ek53 "ValueError.__new__"))
    (xb3 : PySem.HandSPX.refsVE ebm3 = true)
    (xs3 : PySem.W.findIn K (.ref ea3) "__setattr__" = some (some (.builtin "object.__setattr__")))
    (xx3 : PySem.W.subIn K (.ref ea3) (.type "BaseException") = some true)
    (xy3 : PySem.W.typeIn K (.ref ea3) = some (.type "type"))
    (xk3 : PySem.W.keepIn K (.ref ea3) = true)
    (xu3 : PySem.W.ks_superIn K ea3 ea3 "__init__" = some (some (.builtin "ValueError.__init__")))
    (xo3 : PySem.W.nsIn K cStatics "thirdparty.any" = some none)
    (xw3 : PySem.W.findIn K (.ref ea3) "value" = some none)
    (xt_3 : PySem.W.typeIn K (.ref ef3) = some (.type "function"))
    (xm3 : PySem.W.mroIn K ea3 (.ref ea3) = some true)
    (xd3 : PySem.W.subIn K (.ref ea3) (.type "ValueError") = some true)
    (xg3 : PySem.W.findIn K (.ref ea3) "__getattribute__" = some (some (.builtin "BaseException.__getattribute__")))
    (xh3 : PySem.W.findIn K (.ref ea3) "__getattr__" = some none)
    (xn3 : PySem.W.hasDictIn K ea3 = true)
    (xa4 : PySem.W.nsIn K mainGlobals "InvalidName" = some (some (.ref ea4)))
    (xi4 : PySem.W.findIn K (.ref ea4) "__init__" = some (some (.ref ef4)))
    (xl4 : K.lookup ef4 = some ⟨eoc4, eod4, .func (PySem.W.fnX "__init__" "InvalidName.__init__" (defArgs s_InvalidName_init) (defBody s_InvalidName_init) (defScope s_InvalidName_init) [("__class__", ec4)] (.ref et4) ekV4 edc4 epm4 ean4 (.ref eq4) ect4), esl4⟩)
    (xc4 : PySem.W.codeIn K (.ref eq4) "InvalidName.__init__" = true)
    (xq4 : K.lookup eq4 = some ⟨eqc4, eqd4, .fields eqv4, eqm4⟩)
    (xv4 : eqv4[2]? = some (.str efl4 eft4))
    (xf4 : ((l.prog.main.file : Str) == efl4) = true)
    (xe4 : K.lookup ec4 = some ⟨ecl4, ecd4, .cell (some (.ref ea4)), ecs4⟩)
    (xt4 : K.lookup et4 = some ⟨etc4, etd4, .seq #[.none] etn4, ets4⟩)
    (xp4 : (l.prog.main.scope.names.lookup ("super" : Str)).isSome = false)
    (xC4 : K.lookup ea4 = some (excClassObj enm4 eqn4 ea4 eN4 ebs4 ebm4 true esn4 esb4 eab4 ecol4 edd4 ek04 ek14 ek24 ek34 ek54 "ValueError.__new__"))
    (xb4 : PySem.HandSPX.refsVE ebm4 = true)
    (xs4 : PySem.W.findIn K (.ref ea4) "__setattr__" = some (some (.builtin "object.__setattr__")))
    (xx4 : PySem.W.subIn K (.ref ea4) (.type "BaseException") = some true)
    (xy4 : PySem.W.typeIn K (.ref ea4) = some (.type "type"))
    (xk4 : PySem.W.keepIn K (.ref ea4) = true)
    (xu4 : PySem.W.ks_superIn K ea4 ea4 "__init__" = some (some (.builtin "ValueError.__init__")))
    (xo4 : PySem.W.nsIn K cStatics "thirdparty.any" = some none)
    (xw4 : PySem.W.findIn K (.ref ea4) "value" = some none)
    (xt_4 : PySem.W.typeIn K (.ref ef4) = some (.type "function"))
    (xm4 : PySem.W.mroIn K ea4 (.ref ea4) = some true)
    (xd4 : PySem.W.subIn K (.ref ea4) (.type "ValueError") = some true)
    (xg4 : PySem.W.findIn K (.ref ea4) "__getattribute__" = some (some (.builtin "BaseException.__getattribute__")))
    (xh4 : PySem.W.findIn K (.ref ea4) "__getattr__" = some none)
    (xn4 : PySem.W.hasDictIn K ea4 = true)
    (xa5 : PySem.W.nsIn K mainGlobals "InvalidNumber" = some (some (.ref ea5)))
    (xi5 : PySem.W.findIn K (.ref ea5) "__init__" = some (some (.ref ef5)))
    (xl5 : K.lookup ef5 = some ⟨eoc5, eod5, .func (PySem.W.fnX "__init__" "InvalidNumber.__init__" (defArgs s_InvalidNumber_init) (defBody s_InvalidNumber_init) (defScope s_InvalidNumber_init) [("__class__", ec5)] (.ref et5) ekV5 edc5 epm5 ean5 (.ref eq5) ect5), esl5⟩)
    (xc5 : PySem.W.codeIn K (.ref eq5) "InvalidNumber.__init__" = true)
    (xq5 : K.lookup eq5 = some ⟨eqc5, eqd5, .fields eqv5, eqm5⟩)
    (xv5 : eqv5[2]? = some (.str efl5 eft5))
    (xf5 : ((l.prog.main.file : Str) == efl5) = true)
    (xe5 : K.lookup ec5 = some ⟨ecl5, ecd5, .cell (some (.ref ea5)), ecs5⟩)
    (xt5 : K.lookup et5 = some ⟨etc5, etd5, .seq #[.none] etn5, ets5⟩)
    (xp5 : (l.prog.main.scope.names.lookup ("super" : Str)).isSome = false)
    (xC5 : K.lookup ea5 = some (excClassObj enm5 eqn5 ea5 eN5 ebs5 ebm5 true esn5 esb5 eab5 ecol5 edd5 ek05 ek15 ek25 ek35 ek55 "ValueError.__new__"))
    (xb5 : PySem.HandSPX.refsVE ebm5 = true)
    (xs5 : PySem.W.findIn K (.ref ea5) "__setattr__" = some (some (.builtin "object.__setattr__")))
    (xx5 : PySem.W.subIn K (.ref ea5) (.type "BaseException") = some true)
    (xy5 : PySem.W.typeIn K (.ref ea5) = some (.type "type"))
    (xk5 : PySem.W.keepIn K (.ref ea5) = true)
    (xu5 : PySem.W.ks_superIn K ea5 ea5 "__init__" = some (some (.builtin "ValueError.__init__")))
    (xo5 : PySem.W.nsIn K cStatics "thirdparty.any" = some none)
    (xw5 : PySem.W.findIn K (.ref ea5) "value" = some none)
    (xt_5 : PySem.W.typeIn K (.ref ef5) = some (.type "function"))
    (xm5 : PySem.W.mroIn K ea5 (.ref ea5) = some true)
    (xd5 : PySem.W.subIn K (.ref ea5) (.type "ValueError") = some true)
    (xg5 : PySem.W.findIn K (.ref ea5) "__getattribute__" = some (some (.builtin "BaseException.__getattribute__")))
    (xh5 : PySem.W.findIn K (.ref ea5) "__getattr__" = some none)
    (xn5 : PySem.W.hasDictIn K ea5 = true)
    (hn : PySem.W.specialIn K (.builtin "object.__class__") "__get__" = some (some (.builtin "getset_descriptor.__get__")))
    (tk : PySem.W.takesIn K (.builtin "object.__class__") = some true)
    (a0 : PySem.W.nsIn K mainGlobals "_law_purse" = some (some (.ref f0)))
    (l0 : K.lookup f0 = some ⟨oc0, od0, .func (PySem.W.fnOf "_law_purse" "_law_purse" (defArgs s_law_purse) (defBody s_law_purse) (defScope s_law_purse) .none kV0 dc0 pm0 an0 cd0 ct0), sl0⟩)
    (c0 : PySem.W.codeIn K cd0 "_law_purse" = true)
    (k0 : PySem.W.keepIn K (.ref f0) = true)
    (a1 : PySem.W.nsIn K mainGlobals "is_name" = some (some (.ref f1)))
    (l1 : K.lookup f1 = some ⟨oc1, od1, .func (PySem.W.fnOf "is_name" "is_name" (defArgs s_is_name) (defBody s_is_name) (defScope s_is_name) .none kV1 dc1 pm1 an1 cd1 ct1), sl1⟩)
    (c1 : PySem.W.codeIn K cd1 "is_name" = true)
    (k1 : PySem.W.keepIn K (.ref f1) = true)
    (a2 : PySem.W.nsIn K mainGlobals "is_whole" = some (some (.ref f2)))
    (l2 : K.lookup f2 = some ⟨oc2, od2, .func (PySem.W.fnOf "is_whole" "is_whole" (defArgs s_is_whole) (defBody s_is_whole) (defScope s_is_whole) .none kV2 dc2 pm2 an2 cd2 ct2), sl2⟩)
    (c2 : PySem.W.codeIn K cd2 "is_whole" = true)
    (k2 : PySem.W.keepIn K (.ref f2) = true)
    (a3 : PySem.W.nsIn K mainGlobals "are_names" = some (some (.ref f3)))
    (l3 : K.lookup f3 = some ⟨oc3, od3, .func (PySem.W.fnOf "are_names" "are_names" (defArgs s_are_names) (defBody s_are_names) (defScope s_are_names) .none kV3 dc3 pm3 an3 cd3 ct3), sl3⟩)
    (c3 : PySem.W.codeIn K cd3 "are_names" = true)
    (k3 : PySem.W.keepIn K (.ref f3) = true)
    (a4 : PySem.W.findIn K (.ref K0) "__init__" = some (some (.ref f4)))
    (i4 : PySem.W.isFn K (.ref f4) = true)
    (l4 : K.lookup f4 = some ⟨oc4, od4, .func (PySem.W.fnOf "__init__" "Step.__init__" (defArgs s_Step_init) (defBody s_Step_init) (defScope s_Step_init) .none kV4 dc4 pm4 an4 cd4 ct4), sl4⟩)
    (c4 : PySem.W.codeIn K cd4 "Step.__init__" = true)
    (k4 : PySem.W.keepIn K (.ref f4) = true)
    (a5 : PySem.W.nsIn K mainGlobals "are_steps" = some (some (.ref f5)))
    (l5 : K.lookup f5 = some ⟨oc5, od5, .func (PySem.W.fnOf "are_steps" "are_steps" (defArgs s_are_steps) (defBody s_are_steps) (defScope s_are_steps) .none kV5 dc5 pm5 an5 cd5 ct5), sl5⟩)
    (c5 : PySem.W.codeIn K cd5 "are_steps" = true)
    (k5 : PySem.W.keepIn K (.ref f5) = true)
    (a6 : PySem.W.findIn K (.ref K1) "__init__" = some (some (.ref f6)))
    (i6 : PySem.W.isFn K (.ref f6) = true)
    (l6 : K.lookup f6 = some ⟨oc6, od6, .func (PySem.W.fnOf "__init__" "Net.__init__" (defArgs s_Net_init) (defBody s_Net_init) (defScope s_Net_init) .none kV6 dc6 pm6 an6 cd6 ct6), sl6⟩)
    (c6 : PySem.W.codeIn K cd6 "Net.__init__" = true)
    (k6 : PySem.W.keepIn K (.ref f6) = true)
    (a7 : PySem.W.nsIn K mainGlobals "_law_made" = some (some (.ref f7)))
    (l7 : K.lookup f7 = some ⟨oc7, od7, .func (PySem.W.fnOf "_law_made" "_law_made" (defArgs s_law_made) (defBody s_law_made) (defScope s_law_made) .none kV7 dc7 pm7 an7 cd7 ct7), sl7⟩)
    (c7 : PySem.W.codeIn K cd7 "_law_made" = true)
    (k7 : PySem.W.keepIn K (.ref f7) = true)
    (a8 : PySem.W.nsIn K mainGlobals "_law_draw" = some (some (.ref f8)))
    (l8 : K.lookup f8 = some ⟨oc8, od8, .func (PySem.W.fnOf "_law_draw" "_law_draw" (defArgs s_law_draw) (defBody s_law_draw) (defScope s_law_draw) .none kV8 dc8 pm8 an8 cd8 ct8), sl8⟩)
    (c8 : PySem.W.codeIn K cd8 "_law_draw" = true)
    (k8 : PySem.W.keepIn K (.ref f8) = true)
    (a9 : PySem.W.nsIn K mainGlobals "_law_pick" = some (some (.ref f9)))
    (l9 : K.lookup f9 = some ⟨oc9, od9, .func (PySem.W.fnOf "_law_pick" "_law_pick" (defArgs s_law_pick) (defBody s_law_pick) (defScope s_law_pick) .none kV9 dc9 pm9 an9 cd9 ct9), sl9⟩)
    (c9 : PySem.W.codeIn K cd9 "_law_pick" = true)
    (k9 : PySem.W.keepIn K (.ref f9) = true)
    (a10 : PySem.W.nsIn K mainGlobals "_law_phases" = some (some (.ref f10)))
    (l10 : K.lookup f10 = some ⟨oc10, od10, .func (PySem.W.fnOf "_law_phases" "_law_phases" (defArgs s_law_phases) (defBody s_law_phases) (defScope s_law_phases) .none kV10 dc10 pm10 an10 cd10 ct10), sl10⟩)
    (c10 : PySem.W.codeIn K cd10 "_law_phases" = true)
    (k10 : PySem.W.keepIn K (.ref f10) = true)
    (a11 : PySem.W.nsIn K mainGlobals "_law_run" = some (some (.ref f11)))
    (l11 : K.lookup f11 = some ⟨oc11, od11, .func (PySem.W.fnOf "_law_run" "_law_run" (defArgs s_law_run) (defBody s_law_run) (defScope s_law_run) .none kV11 dc11 pm11 an11 cd11 ct11), sl11⟩)
    (c11 : PySem.W.codeIn K cd11 "_law_run" = true)
    (k11 : PySem.W.keepIn K (.ref f11) = true)
    (a12 : PySem.W.nsIn K mainGlobals "check_net" = some (some (.ref f12)))
    (l12 : K.lookup f12 = some ⟨oc12, od12, .func (PySem.W.fnOf "check_net" "check_net" (defArgs s_check_net) (defBody s_check_net) (defScope s_check_net) .none kV12 dc12 pm12 an12 cd12 ct12), sl12⟩)
    (c12 : PySem.W.codeIn K cd12 "check_net" = true)
    (k12 : PySem.W.keepIn K (.ref f12) = true)
    (a13 : PySem.W.nsIn K mainGlobals "is_fraction" = some (some (.ref f13)))
    (l13 : K.lookup f13 = some ⟨oc13, od13, .func (PySem.W.fnOf "is_fraction" "is_fraction" (defArgs s_is_fraction) (defBody s_is_fraction) (defScope s_is_fraction) .none kV13 dc13 pm13 an13 cd13 ct13), sl13⟩)
    (c13 : PySem.W.codeIn K cd13 "is_fraction" = true)
    (k13 : PySem.W.keepIn K (.ref f13) = true)
    (a14 : PySem.W.nsIn K mainGlobals "check_phases" = some (some (.ref f14)))
    (l14 : K.lookup f14 = some ⟨oc14, od14, .func (PySem.W.fnOf "check_phases" "check_phases" (defArgs s_check_phases) (defBody s_check_phases) (defScope s_check_phases) .none kV14 dc14 pm14 an14 cd14 ct14), sl14⟩)
    (c14 : PySem.W.codeIn K cd14 "check_phases" = true)
    (k14 : PySem.W.keepIn K (.ref f14) = true)
    (a15 : PySem.W.nsIn K mainGlobals "check_net_and_phases" = some (some (.ref f15)))
    (l15 : K.lookup f15 = some ⟨oc15, od15, .func (PySem.W.fnOf "check_net_and_phases" "check_net_and_phases" (defArgs s_check_net_and_phases) (defBody s_check_net_and_phases) (defScope s_check_net_and_phases) .none kV15 dc15 pm15 an15 cd15 ct15), sl15⟩)
    (c15 : PySem.W.codeIn K cd15 "check_net_and_phases" = true)
    (k15 : PySem.W.keepIn K (.ref f15) = true)
    (a16 : PySem.W.nsIn K mainGlobals "place_of" = some (some (.ref f16)))
    (l16 : K.lookup f16 = some ⟨oc16, od16, .func (PySem.W.fnOf "place_of" "place_of" (defArgs s_place_of) (defBody s_place_of) (defScope s_place_of) .none kV16 dc16 pm16 an16 cd16 ct16), sl16⟩)
    (c16 : PySem.W.codeIn K cd16 "place_of" = true)
    (k16 : PySem.W.keepIn K (.ref f16) = true)
    (a17 : PySem.W.nsIn K mainGlobals "check_name" = some (some (.ref f17)))
    (l17 : K.lookup f17 = some ⟨oc17, od17, .func (PySem.W.fnOf "check_name" "check_name" (defArgs s_check_name) (defBody s_check_name) (defScope s_check_name) .none kV17 dc17 pm17 an17 cd17 ct17), sl17⟩)
    (c17 : PySem.W.codeIn K cd17 "check_name" = true)
    (k17 : PySem.W.keepIn K (.ref f17) = true)
    (a18 : PySem.W.nsIn K mainGlobals "check_whole" = some (some (.ref f18)))
    (l18 : K.lookup f18 = some ⟨oc18, od18, .func (PySem.W.fnOf "check_whole" "check_whole" (defArgs s_check_whole) (defBody s_check_whole) (defScope s_check_whole) .none kV18 dc18 pm18 an18 cd18 ct18), sl18⟩)
    (c18 : PySem.W.codeIn K cd18 "check_whole" = true)
    (k18 : PySem.W.keepIn K (.ref f18) = true)
    (a19 : PySem.W.nsIn K mainGlobals "common_divisor" = some (some (.ref f19)))
    (l19 : K.lookup f19 = some ⟨oc19, od19, .func (PySem.W.fnOf "common_divisor" "common_divisor" (defArgs s_common_divisor) (defBody s_common_divisor) (defScope s_common_divisor) .none kV19 dc19 pm19 an19 cd19 ct19), sl19⟩)
    (c19 : PySem.W.codeIn K cd19 "common_divisor" = true)
    (k19 : PySem.W.keepIn K (.ref f19) = true)
    (a20 : PySem.W.nsIn K mainGlobals "common_multiple" = some (some (.ref f20)))
    (l20 : K.lookup f20 = some ⟨oc20, od20, .func (PySem.W.fnOf "common_multiple" "common_multiple" (defArgs s_common_multiple) (defBody s_common_multiple) (defScope s_common_multiple) .none kV20 dc20 pm20 an20 cd20 ct20), sl20⟩)
    (c20 : PySem.W.codeIn K cd20 "common_multiple" = true)
    (k20 : PySem.W.keepIn K (.ref f20) = true)
    (a21 : PySem.W.nsIn K mainGlobals "in_units" = some (some (.ref f21)))
    (l21 : K.lookup f21 = some ⟨oc21, od21, .func (PySem.W.fnOf "in_units" "in_units" (defArgs s_in_units) (defBody s_in_units) (defScope s_in_units) .none kV21 dc21 pm21 an21 cd21 ct21), sl21⟩)
    (c21 : PySem.W.codeIn K cd21 "in_units" = true)
    (k21 : PySem.W.keepIn K (.ref f21) = true)
    (a22 : PySem.W.nsIn K mainGlobals "time_begun" = some (some (.ref f22)))
    (l22 : K.lookup f22 = some ⟨oc22, od22, .func (PySem.W.fnOf "time_begun" "time_begun" (defArgs s_time_begun) (defBody s_time_begun) (defScope s_time_begun) .none kV22 dc22 pm22 an22 cd22 ct22), sl22⟩)
    (c22 : PySem.W.codeIn K cd22 "time_begun" = true)
    (k22 : PySem.W.keepIn K (.ref f22) = true)
    (a23 : PySem.W.nsIn K mainGlobals "lowest" = some (some (.ref f23)))
    (l23 : K.lookup f23 = some ⟨oc23, od23, .func (PySem.W.fnOf "lowest" "lowest" (defArgs s_lowest) (defBody s_lowest) (defScope s_lowest) .none kV23 dc23 pm23 an23 cd23 ct23), sl23⟩)
    (c23 : PySem.W.codeIn K cd23 "lowest" = true)
    (k23 : PySem.W.keepIn K (.ref f23) = true)
    (a24 : PySem.W.nsIn K mainGlobals "begun" = some (some (.ref f24)))
    (l24 : K.lookup f24 = some ⟨oc24, od24, .func (PySem.W.fnOf "begun" "begun" (defArgs s_begun) (defBody s_begun) (defScope s_begun) .none kV24 dc24 pm24 an24 cd24 ct24), sl24⟩)
    (c24 : PySem.W.codeIn K cd24 "begun" = true)
    (k24 : PySem.W.keepIn K (.ref f24) = true)
    (a25 : PySem.W.nsIn K mainGlobals "run_read" = some (some (.ref f25)))
    (l25 : K.lookup f25 = some ⟨oc25, od25, .func (PySem.W.fnOf "run_read" "run_read" (defArgs s_run_read) (defBody s_run_read) (defScope s_run_read) .none kV25 dc25 pm25 an25 cd25 ct25), sl25⟩)
    (c25 : PySem.W.codeIn K cd25 "run_read" = true)
    (k25 : PySem.W.keepIn K (.ref f25) = true)
    (a26 : PySem.W.nsIn K mainGlobals "newest" = some (some (.ref f26)))
    (l26 : K.lookup f26 = some ⟨oc26, od26, .func (PySem.W.fnOf "newest" "newest" (defArgs s_newest) (defBody s_newest) (defScope s_newest) .none kV26 dc26 pm26 an26 cd26 ct26), sl26⟩)
    (c26 : PySem.W.codeIn K cd26 "newest" = true)
    (k26 : PySem.W.keepIn K (.ref f26) = true)
    (a27 : PySem.W.nsIn K mainGlobals "check_path" = some (some (.ref f27)))
    (l27 : K.lookup f27 = some ⟨oc27, od27, .func (PySem.W.fnOf "check_path" "check_path" (defArgs s_check_path) (defBody s_check_path) (defScope s_check_path) .none kV27 dc27 pm27 an27 cd27 ct27), sl27⟩)
    (c27 : PySem.W.codeIn K cd27 "check_path" = true)
    (k27 : PySem.W.keepIn K (.ref f27) = true)
    (a28 : PySem.W.nsIn K mainGlobals "places_of" = some (some (.ref f28)))
    (l28 : K.lookup f28 = some ⟨oc28, od28, .func (PySem.W.fnOf "places_of" "places_of" (defArgs s_places_of) (defBody s_places_of) (defScope s_places_of) .none kV28 dc28 pm28 an28 cd28 ct28), sl28⟩)
    (c28 : PySem.W.codeIn K cd28 "places_of" = true)
    (k28 : PySem.W.keepIn K (.ref f28) = true)
    (a29 : PySem.W.nsIn K mainGlobals "run_carried" = some (some (.ref f29)))
    (l29 : K.lookup f29 = some ⟨oc29, od29, .func (PySem.W.fnOf "run_carried" "run_carried" (defArgs s_run_carried) (defBody s_run_carried) (defScope s_run_carried) .none kV29 dc29 pm29 an29 cd29 ct29), sl29⟩)
    (c29 : PySem.W.codeIn K cd29 "run_carried" = true)
    (k29 : PySem.W.keepIn K (.ref f29) = true)
    (a30 : PySem.W.nsIn K mainGlobals "carried" = some (some (.ref f30)))
    (l30 : K.lookup f30 = some ⟨oc30, od30, .func (PySem.W.fnOf "carried" "carried" (defArgs s_carried) (defBody s_carried) (defScope s_carried) .none kV30 dc30 pm30 an30 cd30 ct30), sl30⟩)
    (c30 : PySem.W.codeIn K cd30 "carried" = true)
    (k30 : PySem.W.keepIn K (.ref f30) = true)
    (a31 : PySem.W.nsIn K mainGlobals "time_written" = some (some (.ref f31)))
    (l31 : K.lookup f31 = some ⟨oc31, od31, .func (PySem.W.fnOf "time_written" "time_written" (defArgs s_time_written) (defBody s_time_written) (defScope s_time_written) .none kV31 dc31 pm31 an31 cd31 ct31), sl31⟩)
    (c31 : PySem.W.codeIn K cd31 "time_written" = true)
    (k31 : PySem.W.keepIn K (.ref f31) = true)
    (a32 : PySem.W.nsIn K mainGlobals "age_of" = some (some (.ref f32)))
    (l32 : K.lookup f32 = some ⟨oc32, od32, .func (PySem.W.fnOf "age_of" "age_of" (defArgs s_age_of) (defBody s_age_of) (defScope s_age_of) .none kV32 dc32 pm32 an32 cd32 ct32), sl32⟩)
    (c32 : PySem.W.codeIn K cd32 "age_of" = true)
    (k32 : PySem.W.keepIn K (.ref f32) = true)
    (a33 : PySem.W.nsIn K mainGlobals "age" = some (some (.ref f33)))
    (l33 : K.lookup f33 = some ⟨oc33, od33, .func (PySem.W.fnOf "age" "age" (defArgs s_age) (defBody s_age) (defScope s_age) .none kV33 dc33 pm33 an33 cd33 ct33), sl33⟩)
    (c33 : PySem.W.codeIn K cd33 "age" = true)
    (k33 : PySem.W.keepIn K (.ref f33) = true)
    (a34 : PySem.W.nsIn K mainGlobals "whole_turn" = some (some (.ref f34)))
    (l34 : K.lookup f34 = some ⟨oc34, od34, .func (PySem.W.fnOf "whole_turn" "whole_turn" (defArgs s_whole_turn) (defBody s_whole_turn) (defScope s_whole_turn) .none kV34 dc34 pm34 an34 cd34 ct34), sl34⟩)
    (c34 : PySem.W.codeIn K cd34 "whole_turn" = true)
    (k34 : PySem.W.keepIn K (.ref f34) = true)
    (a35 : PySem.W.nsIn K mainGlobals "runs_in_turn" = some (some (.ref f35)))
    (l35 : K.lookup f35 = some ⟨oc35, od35, .func (PySem.W.fnOf "runs_in_turn" "runs_in_turn" (defArgs s_runs_in_turn) (defBody s_runs_in_turn) (defScope s_runs_in_turn) .none kV35 dc35 pm35 an35 cd35 ct35), sl35⟩)
    (c35 : PySem.W.codeIn K cd35 "runs_in_turn" = true)
    (k35 : PySem.W.keepIn K (.ref f35) = true)
    (a36 : PySem.W.nsIn K mainGlobals "all_carried" = some (some (.ref f36)))
    (l36 : K.lookup f36 = some ⟨oc36, od36, .func (PySem.W.fnOf "all_carried" "all_carried" (defArgs s_all_carried) (defBody s_all_carried) (defScope s_all_carried) .none kV36 dc36 pm36 an36 cd36 ct36), sl36⟩)
    (c36 : PySem.W.codeIn K cd36 "all_carried" = true)
    (k36 : PySem.W.keepIn K (.ref f36) = true)
    (a37 : PySem.W.nsIn K mainGlobals "all_ages" = some (some (.ref f37)))
    (l37 : K.lookup f37 = some ⟨oc37, od37, .func (PySem.W.fnOf "all_ages" "all_ages" (defArgs s_all_ages) (defBody s_all_ages) (defScope s_all_ages) .none kV37 dc37 pm37 an37 cd37 ct37), sl37⟩)
    (c37 : PySem.W.codeIn K cd37 "all_ages" = true)
    (k37 : PySem.W.keepIn K (.ref f37) = true)
    (a38 : PySem.W.nsIn K mainGlobals "ages" = some (some (.ref f38)))
    (l38 : K.lookup f38 = some ⟨oc38, od38, .func (PySem.W.fnOf "ages" "ages" (defArgs s_ages) (defBody s_ages) (defScope s_ages) .none kV38 dc38 pm38 an38 cd38 ct38), sl38⟩)
    (c38 : PySem.W.codeIn K cd38 "ages" = true)
    (k38 : PySem.W.keepIn K (.ref f38) = true)
    (a39 : PySem.W.nsIn K mainGlobals "greatest_wait" = some (some (.ref f39)))
    (l39 : K.lookup f39 = some ⟨oc39, od39, .func (PySem.W.fnOf "greatest_wait" "greatest_wait" (defArgs s_greatest_wait) (defBody s_greatest_wait) (defScope s_greatest_wait) .none kV39 dc39 pm39 an39 cd39 ct39), sl39⟩)
    (c39 : PySem.W.codeIn K cd39 "greatest_wait" = true)
    (k39 : PySem.W.keepIn K (.ref f39) = true)
    (a40 : PySem.W.nsIn K mainGlobals "longest_wait" = some (some (.ref f40)))
    (l40 : K.lookup f40 = some ⟨oc40, od40, .func (PySem.W.fnOf "longest_wait" "longest_wait" (defArgs s_longest_wait) (defBody s_longest_wait) (defScope s_longest_wait) .none kV40 dc40 pm40 an40 cd40 ct40), sl40⟩)
    (c40 : PySem.W.codeIn K cd40 "longest_wait" = true)
    (k40 : PySem.W.keepIn K (.ref f40) = true)
    (a41 : PySem.W.nsIn K mainGlobals "many_used" = some (some (.ref f41)))
    (l41 : K.lookup f41 = some ⟨oc41, od41, .func (PySem.W.fnOf "many_used" "many_used" (defArgs s_many_used) (defBody s_many_used) (defScope s_many_used) .none kV41 dc41 pm41 an41 cd41 ct41), sl41⟩)
    (c41 : PySem.W.codeIn K cd41 "many_used" = true)
    (k41 : PySem.W.keepIn K (.ref f41) = true)
    (a42 : PySem.W.nsIn K mainGlobals "uses" = some (some (.ref f42)))
    (l42 : K.lookup f42 = some ⟨oc42, od42, .func (PySem.W.fnOf "uses" "uses" (defArgs s_uses) (defBody s_uses) (defScope s_uses) .none kV42 dc42 pm42 an42 cd42 ct42), sl42⟩)
    (c42 : PySem.W.codeIn K cd42 "uses" = true)
    (k42 : PySem.W.keepIn K (.ref f42) = true)
    (a43 : PySem.W.nsIn K mainGlobals "_law_called" = some (some (.ref f43)))
    (l43 : K.lookup f43 = some ⟨oc43, od43, .func (PySem.W.fnOf "_law_called" "_law_called" (defArgs s_law_called) (defBody s_law_called) (defScope s_law_called) .none kV43 dc43 pm43 an43 cd43 ct43), sl43⟩)
    (c43 : PySem.W.codeIn K cd43 "_law_called" = true)
    (k43 : PySem.W.keepIn K (.ref f43) = true)
    (a44 : PySem.W.nsIn K mainGlobals "_law_kinds" = some (some (.ref f44)))
    (l44 : K.lookup f44 = some ⟨oc44, od44, .func (PySem.W.fnOf "_law_kinds" "_law_kinds" (defArgs s_law_kinds) (defBody s_law_kinds) (defScope s_law_kinds) .none kV44 dc44 pm44 an44 cd44 ct44), sl44⟩)
    (c44 : PySem.W.codeIn K cd44 "_law_kinds" = true)
    (k44 : PySem.W.keepIn K (.ref f44) = true)
    (a45 : PySem.W.nsIn K mainGlobals "_law_odd" = some (some (.ref f45)))
    (l45 : K.lookup f45 = some ⟨oc45, od45, .func (PySem.W.fnOf "_law_odd" "_law_odd" (defArgs s_law_odd) (defBody s_law_odd) (defScope s_law_odd) .none kV45 dc45 pm45 an45 cd45 ct45), sl45⟩)
    (c45 : PySem.W.codeIn K cd45 "_law_odd" = true)
    (k45 : PySem.W.keepIn K (.ref f45) = true)
    (a46 : PySem.W.nsIn K mainGlobals "check_net" = some (some (.ref f46)))
    (l46 : K.lookup f46 = some ⟨oc46, od46, .func (PySem.W.fnOf "check_net" "check_net" (defArgs s_check_net) (defBody s_check_net) (defScope s_check_net) .none kV46 dc46 pm46 an46 cd46 ct46), sl46⟩)
    (c46 : PySem.W.codeIn K cd46 "check_net" = true)
    (k46 : PySem.W.keepIn K (.ref f46) = true)
    (a47 : PySem.W.nsIn K mainGlobals "check_phases" = some (some (.ref f47)))
    (l47 : K.lookup f47 = some ⟨oc47, od47, .func (PySem.W.fnOf "check_phases" "check_phases" (defArgs s_check_phases) (defBody s_check_phases) (defScope s_check_phases) .none kV47 dc47 pm47 an47 cd47 ct47), sl47⟩)
    (c47 : PySem.W.codeIn K cd47 "check_phases" = true)
    (k47 : PySem.W.keepIn K (.ref f47) = true)
    (a48 : PySem.W.nsIn K mainGlobals "check_net_and_phases" = some (some (.ref f48)))
    (l48 : K.lookup f48 = some ⟨oc48, od48, .func (PySem.W.fnOf "check_net_and_phases" "check_net_and_phases" (defArgs s_check_net_and_phases) (defBody s_check_net_and_phases) (defScope s_check_net_and_phases) .none kV48 dc48 pm48 an48 cd48 ct48), sl48⟩)
    (c48 : PySem.W.codeIn K cd48 "check_net_and_phases" = true)
    (k48 : PySem.W.keepIn K (.ref f48) = true)
    (a49 : PySem.W.nsIn K mainGlobals "check_name" = some (some (.ref f49)))
    (l49 : K.lookup f49 = some ⟨oc49, od49, .func (PySem.W.fnOf "check_name" "check_name" (defArgs s_check_name) (defBody s_check_name) (defScope s_check_name) .none kV49 dc49 pm49 an49 cd49 ct49), sl49⟩)
    (c49 : PySem.W.codeIn K cd49 "check_name" = true)
    (k49 : PySem.W.keepIn K (.ref f49) = true)
    (a50 : PySem.W.nsIn K mainGlobals "check_whole" = some (some (.ref f50)))
    (l50 : K.lookup f50 = some ⟨oc50, od50, .func (PySem.W.fnOf "check_whole" "check_whole" (defArgs s_check_whole) (defBody s_check_whole) (defScope s_check_whole) .none kV50 dc50 pm50 an50 cd50 ct50), sl50⟩)
    (c50 : PySem.W.codeIn K cd50 "check_whole" = true)
    (k50 : PySem.W.keepIn K (.ref f50) = true)
    (a51 : PySem.W.nsIn K mainGlobals "begun" = some (some (.ref f51)))
    (l51 : K.lookup f51 = some ⟨oc51, od51, .func (PySem.W.fnOf "begun" "begun" (defArgs s_begun) (defBody s_begun) (defScope s_begun) .none kV51 dc51 pm51 an51 cd51 ct51), sl51⟩)
    (c51 : PySem.W.codeIn K cd51 "begun" = true)
    (k51 : PySem.W.keepIn K (.ref f51) = true)
    (a52 : PySem.W.nsIn K mainGlobals "newest" = some (some (.ref f52)))
    (l52 : K.lookup f52 = some ⟨oc52, od52, .func (PySem.W.fnOf "newest" "newest" (defArgs s_newest) (defBody s_newest) (defScope s_newest) .none kV52 dc52 pm52 an52 cd52 ct52), sl52⟩)
    (c52 : PySem.W.codeIn K cd52 "newest" = true)
    (k52 : PySem.W.keepIn K (.ref f52) = true)
    (a53 : PySem.W.nsIn K mainGlobals "check_path" = some (some (.ref f53)))
    (l53 : K.lookup f53 = some ⟨oc53, od53, .func (PySem.W.fnOf "check_path" "check_path" (defArgs s_check_path) (defBody s_check_path) (defScope s_check_path) .none kV53 dc53 pm53 an53 cd53 ct53), sl53⟩)
    (c53 : PySem.W.codeIn K cd53 "check_path" = true)
    (k53 : PySem.W.keepIn K (.ref f53) = true)
    (a54 : PySem.W.nsIn K mainGlobals "carried" = some (some (.ref f54)))
    (l54 : K.lookup f54 = some ⟨oc54, od54, .func (PySem.W.fnOf "carried" "carried" (defArgs s_carried) (defBody s_carried) (defScope s_carried) .none kV54 dc54 pm54 an54 cd54 ct54), sl54⟩)
    (c54 : PySem.W.codeIn K cd54 "carried" = true)
    (k54 : PySem.W.keepIn K (.ref f54) = true)
    (a55 : PySem.W.nsIn K mainGlobals "age" = some (some (.ref f55)))
    (l55 : K.lookup f55 = some ⟨oc55, od55, .func (PySem.W.fnOf "age" "age" (defArgs s_age) (defBody s_age) (defScope s_age) .none kV55 dc55 pm55 an55 cd55 ct55), sl55⟩)
    (c55 : PySem.W.codeIn K cd55 "age" = true)
    (k55 : PySem.W.keepIn K (.ref f55) = true)
    (a56 : PySem.W.nsIn K mainGlobals "ages" = some (some (.ref f56)))
    (l56 : K.lookup f56 = some ⟨oc56, od56, .func (PySem.W.fnOf "ages" "ages" (defArgs s_ages) (defBody s_ages) (defScope s_ages) .none kV56 dc56 pm56 an56 cd56 ct56), sl56⟩)
    (c56 : PySem.W.codeIn K cd56 "ages" = true)
    (k56 : PySem.W.keepIn K (.ref f56) = true)
    (a57 : PySem.W.nsIn K mainGlobals "longest_wait" = some (some (.ref f57)))
    (l57 : K.lookup f57 = some ⟨oc57, od57, .func (PySem.W.fnOf "longest_wait" "longest_wait" (defArgs s_longest_wait) (defBody s_longest_wait) (defScope s_longest_wait) .none kV57 dc57 pm57 an57 cd57 ct57), sl57⟩)
    (c57 : PySem.W.codeIn K cd57 "longest_wait" = true)
    (k57 : PySem.W.keepIn K (.ref f57) = true)
    (a58 : PySem.W.nsIn K mainGlobals "uses" = some (some (.ref f58)))
    (l58 : K.lookup f58 = some ⟨oc58, od58, .func (PySem.W.fnOf "uses" "uses" (defArgs s_uses) (defBody s_uses) (defScope s_uses) .none kV58 dc58 pm58 an58 cd58 ct58), sl58⟩)
    (c58 : PySem.W.codeIn K cd58 "uses" = true)
    (k58 : PySem.W.keepIn K (.ref f58) = true)
    (a59 : PySem.W.nsIn K mainGlobals "_law_called" = some (some (.ref f59)))
    (l59 : K.lookup f59 = some ⟨oc59, od59, .func (PySem.W.fnOf "_law_called" "_law_called" (defArgs s_law_called) (defBody s_law_called) (defScope s_law_called) .none kV59 dc59 pm59 an59 cd59 ct59), sl59⟩)
    (c59 : PySem.W.codeIn K cd59 "_law_called" = true)
    (k59 : PySem.W.keepIn K (.ref f59) = true)
    (a60 : PySem.W.nsIn K mainGlobals "_law_refused" = some (some (.ref f60)))
    (l60 : K.lookup f60 = some ⟨oc60, od60, .func (PySem.W.fnOf "_law_refused" "_law_refused" (defArgs s_law_refused) (defBody s_law_refused) (defScope s_law_refused) .none kV60 dc60 pm60 an60 cd60 ct60), sl60⟩)
    (c60 : PySem.W.codeIn K cd60 "_law_refused" = true)
    (k60 : PySem.W.keepIn K (.ref f60) = true)
    (a61 : PySem.W.nsIn K mainGlobals "_law_way_right" = some (some (.ref f61)))
    (l61 : K.lookup f61 = some ⟨oc61, od61, .func (PySem.W.fnOf "_law_way_right" "_law_way_right" (defArgs s_law_way_right) (defBody s_law_way_right) (defScope s_law_way_right) .none kV61 dc61 pm61 an61 cd61 ct61), sl61⟩)
    (c61 : PySem.W.codeIn K cd61 "_law_way_right" = true)
    (k61 : PySem.W.keepIn K (.ref f61) = true)
    (a62 : PySem.W.nsIn K mainGlobals "law" = some (some (.ref f62)))
    (l62 : K.lookup f62 = some ⟨oc62, od62, .func (PySem.W.fnOf "law" "law" (defArgs s_law) (defBody s_law) (defScope s_law) .none kV62 dc62 pm62 an62 cd62 ct62), sl62⟩)
    (c62 : PySem.W.codeIn K cd62 "law" = true)
    (k62 : PySem.W.keepIn K (.ref f62) = true)
    (z_abs : PySem.W.nsIn K mainGlobals "abs" = some none)
    (z_bool : PySem.W.nsIn K mainGlobals "bool" = some none)
    (z_enumerate : PySem.W.nsIn K mainGlobals "enumerate" = some none)
    (z_int : PySem.W.nsIn K mainGlobals "int" = some none)
    (z_isinstance : PySem.W.nsIn K mainGlobals "isinstance" = some none)
    (z_len : PySem.W.nsIn K mainGlobals "len" = some none)
    (z_list : PySem.W.nsIn K mainGlobals "list" = some none)
    (z_max : PySem.W.nsIn K mainGlobals "max" = some none)
    (z_range : PySem.W.nsIn K mainGlobals "range" = some none)
    (z_repr : PySem.W.nsIn K mainGlobals "repr" = some none)
    (z_set : PySem.W.nsIn K mainGlobals "set" = some none)
    (z_sorted : PySem.W.nsIn K mainGlobals "sorted" = some none)
    (z_str : PySem.W.nsIn K mainGlobals "str" = some none)
    (z_super : PySem.W.nsIn K mainGlobals "super" = some none)
    (z_tuple : PySem.W.nsIn K mainGlobals "tuple" = some none)
    (z_zip : PySem.W.nsIn K mainGlobals "zip" = some none)
    (v_LETTERS : PySem.W.nsIn K mainGlobals "LETTERS" = some (some (.str "abcdefghijklmnopqrstuvwxyz" t_LETTERS)))
    (xha0 : PySem.W.findIn K (.ref ea0) "__class__" = some (some (.builtin "object.__class__")))
    (xhm0 : PySem.W.mroIn K ea0 (.type "object") = some true)
    (xha1 : PySem.W.findIn K (.ref ea1) "__class__" = some (some (.builtin "object.__class__")))
    (xhm1 : PySem.W.mroIn K ea1 (.type "object") = some true)
    (xha2 : PySem.W.findIn K (.ref ea2) "__class__" = some (some (.builtin "object.__class__")))
    (xhm2 : PySem.W.mroIn K ea2 (.type "object") = some true)
    (xha3 : PySem.W.findIn K (.ref ea3) "__class__" = some (some (.builtin "object.__class__")))
    (xhm3 : PySem.W.mroIn K ea3 (.type "object") = some true)
    (xha4 : PySem.W.findIn K (.ref ea4) "__class__" = some (some (.builtin "object.__class__")))
    (xhm4 : PySem.W.mroIn K ea4 (.type "object") = some true)
    (xha5 : PySem.W.findIn K (.ref ea5) "__class__" = some (some (.builtin "object.__class__")))
    (xhm5 : PySem.W.mroIn K ea5 (.type "object") = some true)
    (xB_AgedReadsError : PySem.W.nsIn K mainGlobals "AgedReadsError" = some (some (.ref eB_AgedReadsError)))
    (cb_AgedReadsError : PySem.W.subIn K (.ref eB_AgedReadsError) (.type "BaseException") = some true)
    (cd_AgedReadsError : PySem.W.hasDictIn K eB_AgedReadsError = true)
    (cy_AgedReadsError : PySem.W.typeIn K (.ref eB_AgedReadsError) = some (.type "type"))
    (cs_AgedReadsError_0 : PySem.W.subIn K (.ref ea0) (.ref eB_AgedReadsError) = some true)
    (cs_AgedReadsError_1 : PySem.W.subIn K (.ref ea1) (.ref eB_AgedReadsError) = some true)
    (cs_AgedReadsError_2 : PySem.W.subIn K (.ref ea2) (.ref eB_AgedReadsError) = some true)
    (cs_AgedReadsError_3 : PySem.W.subIn K (.ref ea3) (.ref eB_AgedReadsError) = some true)
    (cs_AgedReadsError_4 : PySem.W.subIn K (.ref ea4) (.ref eB_AgedReadsError) = some true)
    (cs_AgedReadsError_5 : PySem.W.subIn K (.ref ea5) (.ref eB_AgedReadsError) = some true)
    (ki_InvalidNet_0 : PySem.W.kitOne K (.ref ea0) (.ref ea1) = some false)
    (ki_InvalidNet_1 : PySem.W.kitOne K (.ref ea1) (.ref ea1) = some true)
    (ki_InvalidNet_2 : PySem.W.kitOne K (.ref ea2) (.ref ea1) = some false)
    (ki_InvalidNet_3 : PySem.W.kitOne K (.ref ea3) (.ref ea1) = some false)
    (ki_InvalidNet_4 : PySem.W.kitOne K (.ref ea4) (.ref ea1) = some false)
    (ki_InvalidNet_5 : PySem.W.kitOne K (.ref ea5) (.ref ea1) = some false)
    (ki_InvalidPhases_0 : PySem.W.kitOne K (.ref ea0) (.ref ea2) = some false)
    (ki_InvalidPhases_1 : PySem.W.kitOne K (.ref ea1) (.ref ea2) = some false)
    (ki_InvalidPhases_2 : PySem.W.kitOne K (.ref ea2) (.ref ea2) = some true)
    (ki_InvalidPhases_3 : PySem.W.kitOne K (.ref ea3) (.ref ea2) = some false)
    (ki_InvalidPhases_4 : PySem.W.kitOne K (.ref ea4) (.ref ea2) = some false)
    (ki_InvalidPhases_5 : PySem.W.kitOne K (.ref ea5) (.ref ea2) = some false)
    (ki_InvalidName_0 : PySem.W.kitOne K (.ref ea0) (.ref ea4) = some false)
    (ki_InvalidName_1 : PySem.W.kitOne K (.ref ea1) (.ref ea4) = some false)
    (ki_InvalidName_2 : PySem.W.kitOne K (.ref ea2) (.ref ea4) = some false)
    (ki_InvalidName_3 : PySem.W.kitOne K (.ref ea3) (.ref ea4) = some false)
    (ki_InvalidName_4 : PySem.W.kitOne K (.ref ea4) (.ref ea4) = some true)
    (ki_InvalidName_5 : PySem.W.kitOne K (.ref ea5) (.ref ea4) = some false)
    (ki_InvalidPath_0 : PySem.W.kitOne K (.ref ea0) (.ref ea3) = some false)
    (ki_InvalidPath_1 : PySem.W.kitOne K (.ref ea1) (.ref ea3) = some false)
    (ki_InvalidPath_2 : PySem.W.kitOne K (.ref ea2) (.ref ea3) = some false)
    (ki_InvalidPath_3 : PySem.W.kitOne K (.ref ea3) (.ref ea3) = some true)
    (ki_InvalidPath_4 : PySem.W.kitOne K (.ref ea4) (.ref ea3) = some false)
    (ki_InvalidPath_5 : PySem.W.kitOne K (.ref ea5) (.ref ea3) = some false)
    (ki_InvalidNumber_0 : PySem.W.kitOne K (.ref ea0) (.ref ea5) = some false)
    (ki_InvalidNumber_1 : PySem.W.kitOne K (.ref ea1) (.ref ea5) = some false)
    (ki_InvalidNumber_2 : PySem.W.kitOne K (.ref ea2) (.ref ea5) = some false)
    (ki_InvalidNumber_3 : PySem.W.kitOne K (.ref ea3) (.ref ea5) = some false)
    (ki_InvalidNumber_4 : PySem.W.kitOne K (.ref ea4) (.ref ea5) = some false)
    (ki_InvalidNumber_5 : PySem.W.kitOne K (.ref ea5) (.ref ea5) = some true) :
    EndT l w K 11 "_law_script" mg fa [] := by
  have e := hfa.symm.trans (PySem.W.mg_of X G a62)
  cases e
  refine ⟨[], fun p hp => ?_, fun p hp => ?_, PySem.W.fnOf "law" "law" (defArgs s_law) (defBody s_law) (defScope s_law) .none kV62 dc62 pm62 an62 cd62 ct62, fun s v => .of_eq rfl, fun base kb nb hTB => ⟨⟨K, clsA K0 K1 ea0 ea1 ea2 ea3 ea4 ea5, fldA, [], w, l.prog, mg, base, 1⟩, rfl, fun p hp => ?_, ?_⟩⟩
  · cases hp
  · cases hp
  · cases hp
  have T : Txt ⟨K, clsA K0 K1 ea0 ea1 ea2 ea3 ea4 ea5, fldA, [], w, l.prog, mg, base, 1⟩ mg := {
    n_abs := PySem.W.mg_none_of X G z_abs
    n_bool := PySem.W.mg_none_of X G z_bool
    n_enumerate := PySem.W.mg_none_of X G z_enumerate
    n_int := PySem.W.mg_none_of X G z_int
    n_isinstance := PySem.W.mg_none_of X G z_isinstance
    n_len := PySem.W.mg_none_of X G z_len
    n_list := PySem.W.mg_none_of X G z_list
    n_max := PySem.W.mg_none_of X G z_max
    n_range := PySem.W.mg_none_of X G z_range
    n_repr := PySem.W.mg_none_of X G z_repr
    n_set := PySem.W.mg_none_of X G z_set
    n_sorted := PySem.W.mg_none_of X G z_sorted
    n_str := PySem.W.mg_none_of X G z_str
    n_super := PySem.W.mg_none_of X G z_super
    n_tuple := PySem.W.mg_none_of X G z_tuple
    n_zip := PySem.W.mg_none_of X G z_zip
    g_LETTERS := ⟨_, PySem.W.mg_of X G v_LETTERS, ⟨_, rfl⟩⟩
    c0 := ⟨⟨pg0, hd0, po0, sa0⟩, ha0, hn, tk, mr0⟩
    g0 := PySem.W.mg_of X G aC0
    nf0 := rfl
    a0_label := na0_label
    l0_label := rfl
    a0_turn := na0_turn
    l0_turn := rfl
    a0_lag := na0_lag
    l0_lag := rfl
    a0_sources := na0_sources
    l0_sources := rfl
    nbi0 := noBi_of kb0_NoneType kb0_bool kb0_int kb0_str kb0_list kb0_tuple kb0_dict
    c1 := ⟨⟨pg1, hd1, po1, sa1⟩, ha1, hn, tk, mr1⟩
    g1 := PySem.W.mg_of X G aC1
    nf1 := rfl
    a1_nodes := na1_nodes
    l1_nodes := rfl
    nbi1 := noBi_of kb1_NoneType kb1_bool kb1_int kb1_str kb1_list kb1_tuple kb1_dict
    xv := (xv_cons (k := 2) ⟨xg0, xh0, xx0, xn0⟩ xw0 (xv_cons (k := 3) ⟨xg1, xh1, xx1, xn1⟩ xw1 (xv_cons (k := 4) ⟨xg2, xh2, xx2, xn2⟩ xw2 (xv_cons (k := 5) ⟨xg3, xh3, xx3, xn3⟩ xw3 (xv_cons (k := 6) ⟨xg4, xh4, xx4, xn4⟩ xw4 (xv_cons (k := 7) ⟨xg5, xh5, xx5, xn5⟩ xw5 xv_nil))))))
    xi_InvalidNet := ⟨_, PySem.W.mg_of X G xa1, (xi_cons (k := 2) ⟨xg0, xh0, xx0, xn0, xha0, hn, tk, xhm0⟩ ki_InvalidNet_0 (xi_cons (k := 3) ⟨xg1, xh1, xx1, xn1, xha1, hn, tk, xhm1⟩ ki_InvalidNet_1 (xi_cons (k := 4) ⟨xg2, xh2, xx2, xn2, xha2, hn, tk, xhm2⟩ ki_InvalidNet_2 (xi_cons (k := 5) ⟨xg3, xh3, xx3, xn3, xha3, hn, tk, xhm3⟩ ki_InvalidNet_3 (xi_cons (k := 6) ⟨xg4, xh4, xx4, xn4, xha4, hn, tk, xhm4⟩ ki_InvalidNet_4 (xi_cons (k := 7) ⟨xg5, xh5, xx5, xn5, xha5, hn, tk, xhm5⟩ ki_InvalidNet_5 xi_nil))))))⟩
    xi_InvalidPhases := ⟨_, PySem.W.mg_of X G xa2, (xi_cons (k := 2) ⟨xg0, xh0, xx0, xn0, xha0, hn, tk, xhm0⟩ ki_InvalidPhases_0 (xi_cons (k := 3) ⟨xg1, xh1, xx1, xn1, xha1, hn, tk, xhm1⟩ ki_InvalidPhases_1 (xi_cons (k := 4) ⟨xg2, xh2, xx2, xn2, xha2, hn, tk, xhm2⟩ ki_InvalidPhases_2 (xi_cons (k := 5) ⟨xg3, xh3, xx3, xn3, xha3, hn, tk, xhm3⟩ ki_InvalidPhases_3 (xi_cons (k := 6) ⟨xg4, xh4, xx4, xn4, xha4, hn, tk, xhm4⟩ ki_InvalidPhases_4 (xi_cons (k := 7) ⟨xg5, xh5, xx5, xn5, xha5, hn, tk, xhm5⟩ ki_InvalidPhases_5 xi_nil))))))⟩
    xi_InvalidName := ⟨_, PySem.W.mg_of X G xa4, (xi_cons (k := 2) ⟨xg0, xh0, xx0, xn0, xha0, hn, tk, xhm0⟩ ki_InvalidName_0 (xi_cons (k := 3) ⟨xg1, xh1, xx1, xn1, xha1, hn, tk, xhm1⟩ ki_InvalidName_1 (xi_cons (k := 4) ⟨xg2, xh2, xx2, xn2, xha2, hn, tk, xhm2⟩ ki_InvalidName_2 (xi_cons (k := 5) ⟨xg3, xh3, xx3, xn3, xha3, hn, tk, xhm3⟩ ki_InvalidName_3 (xi_cons (k := 6) ⟨xg4, xh4, xx4, xn4, xha4, hn, tk, xhm4⟩ ki_InvalidName_4 (xi_cons (k := 7) ⟨xg5, xh5, xx5, xn5, xha5, hn, tk, xhm5⟩ ki_InvalidName_5 xi_nil))))))⟩
    xi_InvalidPath := ⟨_, PySem.W.mg_of X G xa3, (xi_cons (k := 2) ⟨xg0, xh0, xx0, xn0, xha0, hn, tk, xhm0⟩ ki_InvalidPath_0 (xi_cons (k := 3) ⟨xg1, xh1, xx1, xn1, xha1, hn, tk, xhm1⟩ ki_InvalidPath_1 (xi_cons (k := 4) ⟨xg2, xh2, xx2, xn2, xha2, hn, tk, xhm2⟩ ki_InvalidPath_2 (xi_cons (k := 5) ⟨xg3, xh3, xx3, xn3, xha3, hn, tk, xhm3⟩ ki_InvalidPath_3 (xi_cons (k := 6) ⟨xg4, xh4, xx4, xn4, xha4, hn, tk, xhm4⟩ ki_InvalidPath_4 (xi_cons (k := 7) ⟨xg5, xh5, xx5, xn5, xha5, hn, tk, xhm5⟩ ki_InvalidPath_5 xi_nil))))))⟩
    xi_InvalidNumber := ⟨_, PySem.W.mg_of X G xa5, (xi_cons (k := 2) ⟨xg0, xh0, xx0, xn0, xha0, hn, tk, xhm0⟩ ki_InvalidNumber_0 (xi_cons (k := 3) ⟨xg1, xh1, xx1, xn1, xha1, hn, tk, xhm1⟩ ki_InvalidNumber_1 (xi_cons (k := 4) ⟨xg2, xh2, xx2, xn2, xha2, hn, tk, xhm2⟩ ki_InvalidNumber_2 (xi_cons (k := 5) ⟨xg3, xh3, xx3, xn3, xha3, hn, tk, xhm3⟩ ki_InvalidNumber_3 (xi_cons (k := 6) ⟨xg4, xh4, xx4, xn4, xha4, hn, tk, xhm4⟩ ki_InvalidNumber_4 (xi_cons (k := 7) ⟨xg5, xh5, xx5, xn5, xha5, hn, tk, xhm5⟩ ki_InvalidNumber_5 xi_nil))))))⟩
    ct_AgedReadsError := ⟨_, PySem.W.mg_of X G xB_AgedReadsError, (ct_cons (k := 2) cb_AgedReadsError cd_AgedReadsError cy_AgedReadsError cs_AgedReadsError_0 (ct_cons (k := 3) cb_AgedReadsError cd_AgedReadsError cy_AgedReadsError cs_AgedReadsError_1 (ct_cons (k := 4) cb_AgedReadsError cd_AgedReadsError cy_AgedReadsError cs_AgedReadsError_2 (ct_cons (k := 5) cb_AgedReadsError cd_AgedReadsError cy_AgedReadsError cs_AgedReadsError_3 (ct_cons (k := 6) cb_AgedReadsError cd_AgedReadsError cy_AgedReadsError cs_AgedReadsError_4 (ct_cons (k := 7) cb_AgedReadsError cd_AgedReadsError cy_AgedReadsError cs_AgedReadsError_5 ct_nil))))))⟩ }
  have F0 := fun_mk (st := s_law_purse) l0 c0 k0
  have b0 := F0.binds (ps := ["_law_script", "_law_at"]) fun _ _ _ _ _ _ us hl => match us, hl with | [_, _], _ => rfl
  have F1 := fun_mk (st := s_is_name) l1 c1 k1
  have b1 := F1.binds (ps := ["value"]) fun _ _ _ _ _ _ us hl => match us, hl with | [_], _ => rfl
  have F2 := fun_mk (st := s_is_whole) l2 c2 k2
  have b2 := F2.binds (ps := ["value"]) fun _ _ _ _ _ _ us hl => match us, hl with | [_], _ => rfl
  have F3 := fun_mk (st := s_are_names) l3 c3 k3
  have b3 := F3.binds (ps := ["value"]) fun _ _ _ _ _ _ us hl => match us, hl with | [_], _ => rfl
  have F4 := fun_mk (st := s_Step_init) l4 c4 k4
  have b4 := F4.binds (ps := ["self", "name", "period", "delay", "reads"]) fun _ _ _ _ _ _ us hl => match us, hl with | [_, _, _, _, _], _ => rfl
  have F5 := fun_mk (st := s_are_steps) l5 c5 k5
  have b5 := F5.binds (ps := ["value"]) fun _ _ _ _ _ _ us hl => match us, hl with | [_], _ => rfl
  have F6 := fun_mk (st := s_Net_init) l6 c6 k6
  have b6 := F6.binds (ps := ["self", "steps"]) fun _ _ _ _ _ _ us hl => match us, hl with | [_, _], _ => rfl
  have F7 := fun_mk (st := s_law_made) l7 c7 k7
  have b7 := F7.binds (ps := ["_law_net"]) fun _ _ _ _ _ _ us hl => match us, hl with | [_], _ => rfl
  have F8 := fun_mk (st := s_law_draw) l8 c8 k8
  have b8 := F8.binds (ps := ["_law_purse_here", "_law_many"]) fun _ _ _ _ _ _ us hl => match us, hl with | [_, _], _ => rfl
  have F9 := fun_mk (st := s_law_pick) l9 c9 k9
  have b9 := F9.binds (ps := ["_law_purse_here", "_law_items"]) fun _ _ _ _ _ _ us hl => match us, hl with | [_, _], _ => rfl
  have F10 := fun_mk (st := s_law_phases) l10 c10 k10
  have b10 := F10.binds (ps := ["_law_purse_here", "_law_net"]) fun _ _ _ _ _ _ us hl => match us, hl with | [_, _], _ => rfl
  have F11 := fun_mk (st := s_law_run) l11 c11 k11
  have b11 := F11.binds (ps := ["_law_purse_here"]) fun _ _ _ _ _ _ us hl => match us, hl with | [_], _ => rfl
  have F12 := fun_mk (st := s_check_net) l12 c12 k12
  have b12 := F12.binds (ps := ["value"]) fun _ _ _ _ _ _ us hl => match us, hl with | [_], _ => rfl
  have F13 := fun_mk (st := s_is_fraction) l13 c13 k13
  have b13 := F13.binds (ps := ["value"]) fun _ _ _ _ _ _ us hl => match us, hl with | [_], _ => rfl
  have F14 := fun_mk (st := s_check_phases) l14 c14 k14
  have b14 := F14.binds (ps := ["net", "value"]) fun _ _ _ _ _ _ us hl => match us, hl with | [_, _], _ => rfl
  have F15 := fun_mk (st := s_check_net_and_phases) l15 c15 k15
  have b15 := F15.binds (ps := ["net", "phases"]) fun _ _ _ _ _ _ us hl => match us, hl with | [_, _], _ => rfl
  have F16 := fun_mk (st := s_place_of) l16 c16 k16
  have b16 := F16.binds (ps := ["net", "name"]) fun _ _ _ _ _ _ us hl => match us, hl with | [_, _], _ => rfl
  have F17 := fun_mk (st := s_check_name) l17 c17 k17
  have b17 := F17.binds (ps := ["net", "name"]) fun _ _ _ _ _ _ us hl => match us, hl with | [_, _], _ => rfl
  have F18 := fun_mk (st := s_check_whole) l18 c18 k18
  have b18 := F18.binds (ps := ["value"]) fun _ _ _ _ _ _ us hl => match us, hl with | [_], _ => rfl
  have F19 := fun_mk (st := s_common_divisor) l19 c19 k19
  have b19 := F19.binds (ps := ["one", "other"]) fun _ _ _ _ _ _ us hl => match us, hl with | [_, _], _ => rfl
  have F20 := fun_mk (st := s_common_multiple) l20 c20 k20
  have b20 := F20.binds (ps := ["numbers"]) fun _ _ _ _ _ _ us hl => match us, hl with | [_], _ => rfl
  have F21 := fun_mk (st := s_in_units) l21 c21 k21
  have b21 := F21.binds (ps := ["phases"]) fun _ _ _ _ _ _ us hl => match us, hl with | [_], _ => rfl
  have F22 := fun_mk (st := s_time_begun) l22 c22 k22
  have b22 := F22.binds (ps := ["net", "starts", "scale", "place", "run"]) fun _ _ _ _ _ _ us hl => match us, hl with | [_, _, _, _, _], _ => rfl
  have F23 := fun_mk (st := s_lowest) l23 c23 k23
  have b23 := F23.binds (ps := ["number", "total"]) fun _ _ _ _ _ _ us hl => match us, hl with | [_, _], _ => rfl
  have F24 := fun_mk (st := s_begun) l24 c24 k24
  have b24 := F24.binds (ps := ["net", "phases", "name", "run"]) fun _ _ _ _ _ _ us hl => match us, hl with | [_, _, _, _], _ => rfl
  have F25 := fun_mk (st := s_run_read) l25 c25 k25
  have b25 := F25.binds (ps := ["net", "starts", "scale", "reader", "source", "run"]) fun _ _ _ _ _ _ us hl => match us, hl with | [_, _, _, _, _, _], _ => rfl
  have F26 := fun_mk (st := s_newest) l26 c26 k26
  have b26 := F26.binds (ps := ["net", "phases", "reader", "name", "run"]) fun _ _ _ _ _ _ us hl => match us, hl with | [_, _, _, _, _], _ => rfl
  have F27 := fun_mk (st := s_check_path) l27 c27 k27
  have b27 := F27.binds (ps := ["net", "value"]) fun _ _ _ _ _ _ us hl => match us, hl with | [_, _], _ => rfl
  have F28 := fun_mk (st := s_places_of) l28 c28 k28
  have b28 := F28.binds (ps := ["net", "path"]) fun _ _ _ _ _ _ us hl => match us, hl with | [_, _], _ => rfl
  have F29 := fun_mk (st := s_run_carried) l29 c29 k29
  have b29 := F29.binds (ps := ["net", "starts", "scale", "places", "run"]) fun _ _ _ _ _ _ us hl => match us, hl with | [_, _, _, _, _], _ => rfl
  have F30 := fun_mk (st := s_carried) l30 c30 k30
  have b30 := F30.binds (ps := ["net", "phases", "path", "run"]) fun _ _ _ _ _ _ us hl => match us, hl with | [_, _, _, _], _ => rfl
  have F31 := fun_mk (st := s_time_written) l31 c31 k31
  have b31 := F31.binds (ps := ["net", "starts", "scale", "place", "run"]) fun _ _ _ _ _ _ us hl => match us, hl with | [_, _, _, _, _], _ => rfl
  have F32 := fun_mk (st := s_age_of) l32 c32 k32
  have b32 := F32.binds (ps := ["net", "starts", "scale", "places", "run", "source"]) fun _ _ _ _ _ _ us hl => match us, hl with | [_, _, _, _, _, _], _ => rfl
  have F33 := fun_mk (st := s_age) l33 c33 k33
  have b33 := F33.binds (ps := ["net", "phases", "path", "run"]) fun _ _ _ _ _ _ us hl => match us, hl with | [_, _, _, _], _ => rfl
  have F34 := fun_mk (st := s_whole_turn) l34 c34 k34
  have b34 := F34.binds (ps := ["net"]) fun _ _ _ _ _ _ us hl => match us, hl with | [_], _ => rfl
  have F35 := fun_mk (st := s_runs_in_turn) l35 c35 k35
  have b35 := F35.binds (ps := ["net", "place"]) fun _ _ _ _ _ _ us hl => match us, hl with | [_, _], _ => rfl
  have F36 := fun_mk (st := s_all_carried) l36 c36 k36
  have b36 := F36.binds (ps := ["net", "starts", "scale", "places"]) fun _ _ _ _ _ _ us hl => match us, hl with | [_, _, _, _], _ => rfl
  have F37 := fun_mk (st := s_all_ages) l37 c37 k37
  have b37 := F37.binds (ps := ["net", "starts", "scale", "places"]) fun _ _ _ _ _ _ us hl => match us, hl with | [_, _, _, _], _ => rfl
  have F38 := fun_mk (st := s_ages) l38 c38 k38
  have b38 := F38.binds (ps := ["net", "phases", "path"]) fun _ _ _ _ _ _ us hl => match us, hl with | [_, _, _], _ => rfl
  have F39 := fun_mk (st := s_greatest_wait) l39 c39 k39
  have b39 := F39.binds (ps := ["net", "starts", "scale", "places"]) fun _ _ _ _ _ _ us hl => match us, hl with | [_, _, _, _], _ => rfl
  have F40 := fun_mk (st := s_longest_wait) l40 c40 k40
  have b40 := F40.binds (ps := ["net", "phases", "path"]) fun _ _ _ _ _ _ us hl => match us, hl with | [_, _, _], _ => rfl
  have F41 := fun_mk (st := s_many_used) l41 c41 k41
  have b41 := F41.binds (ps := ["net", "starts", "scale", "places"]) fun _ _ _ _ _ _ us hl => match us, hl with | [_, _, _, _], _ => rfl
  have F42 := fun_mk (st := s_uses) l42 c42 k42
  have b42 := F42.binds (ps := ["net", "phases", "path"]) fun _ _ _ _ _ _ us hl => match us, hl with | [_, _, _], _ => rfl
  have F43 := fun_mk (st := s_law_called) l43 c43 k43
  have b43 := F43.binds (ps := ["_law_way", "_law_given"]) fun _ _ _ _ _ _ us hl => match us, hl with | [_, _], _ => rfl
  have F44 := fun_mk (st := s_law_kinds) l44 c44 k44
  have b44 := F44.binds (ps := ["_law_way"]) fun _ _ _ _ _ _ us hl => match us, hl with | [_], _ => rfl
  have F45 := fun_mk (st := s_law_odd) l45 c45 k45
  have b45 := F45.binds (ps := ["_law_kind", "_law_net", "_law_phases_here", "_law_path"]) fun _ _ _ _ _ _ us hl => match us, hl with | [_, _, _, _], _ => rfl
  have F46 := fun_mk (st := s_check_net) l46 c46 k46
  have b46 := F46.binds (ps := ["value"]) fun _ _ _ _ _ _ us hl => match us, hl with | [_], _ => rfl
  have F47 := fun_mk (st := s_check_phases) l47 c47 k47
  have b47 := F47.binds (ps := ["net", "value"]) fun _ _ _ _ _ _ us hl => match us, hl with | [_, _], _ => rfl
  have F48 := fun_mk (st := s_check_net_and_phases) l48 c48 k48
  have b48 := F48.binds (ps := ["net", "phases"]) fun _ _ _ _ _ _ us hl => match us, hl with | [_, _], _ => rfl
  have F49 := fun_mk (st := s_check_name) l49 c49 k49
  have b49 := F49.binds (ps := ["net", "name"]) fun _ _ _ _ _ _ us hl => match us, hl with | [_, _], _ => rfl
  have F50 := fun_mk (st := s_check_whole) l50 c50 k50
  have b50 := F50.binds (ps := ["value"]) fun _ _ _ _ _ _ us hl => match us, hl with | [_], _ => rfl
  have F51 := fun_mk (st := s_begun) l51 c51 k51
  have b51 := F51.binds (ps := ["net", "phases", "name", "run"]) fun _ _ _ _ _ _ us hl => match us, hl with | [_, _, _, _], _ => rfl
  have F52 := fun_mk (st := s_newest) l52 c52 k52
  have b52 := F52.binds (ps := ["net", "phases", "reader", "name", "run"]) fun _ _ _ _ _ _ us hl => match us, hl with | [_, _, _, _, _], _ => rfl
  have F53 := fun_mk (st := s_check_path) l53 c53 k53
  have b53 := F53.binds (ps := ["net", "value"]) fun _ _ _ _ _ _ us hl => match us, hl with | [_, _], _ => rfl
  have F54 := fun_mk (st := s_carried) l54 c54 k54
  have b54 := F54.binds (ps := ["net", "phases", "path", "run"]) fun _ _ _ _ _ _ us hl => match us, hl with | [_, _, _, _], _ => rfl
  have F55 := fun_mk (st := s_age) l55 c55 k55
  have b55 := F55.binds (ps := ["net", "phases", "path", "run"]) fun _ _ _ _ _ _ us hl => match us, hl with | [_, _, _, _], _ => rfl
  have F56 := fun_mk (st := s_ages) l56 c56 k56
  have b56 := F56.binds (ps := ["net", "phases", "path"]) fun _ _ _ _ _ _ us hl => match us, hl with | [_, _, _], _ => rfl
  have F57 := fun_mk (st := s_longest_wait) l57 c57 k57
  have b57 := F57.binds (ps := ["net", "phases", "path"]) fun _ _ _ _ _ _ us hl => match us, hl with | [_, _, _], _ => rfl
  have F58 := fun_mk (st := s_uses) l58 c58 k58
  have b58 := F58.binds (ps := ["net", "phases", "path"]) fun _ _ _ _ _ _ us hl => match us, hl with | [_, _, _], _ => rfl
  have F59 := fun_mk (st := s_law_called) l59 c59 k59
  have b59 := F59.binds (ps := ["_law_way", "_law_given"]) fun _ _ _ _ _ _ us hl => match us, hl with | [_, _], _ => rfl
  have F60 := fun_mk (st := s_law_refused) l60 c60 k60
  have b60 := F60.binds (ps := ["_law_way", "_law_given", "_law_place", "_law_kind"]) fun _ _ _ _ _ _ us hl => match us, hl with | [_, _, _, _], _ => rfl
  have F61 := fun_mk (st := s_law_way_right) l61 c61 k61
  have b61 := F61.binds (ps := ["_law_way", "_law_right", "_law_net", "_law_phases_here", "_law_path"]) fun _ _ _ _ _ _ us hl => match us, hl with | [_, _, _, _, _], _ => rfl
  have F62 := fun_mk (st := s_law) l62 c62 k62
  have b62 := F62.binds (ps := ["_law_script"]) fun _ _ _ _ _ _ us hl => match us, hl with | [_], _ => rfl
  have CE_InvalidNet : CalE l.prog ⟨K, clsA K0 K1 ea0 ea1 ea2 ea3 ea4 ea5, fldA, [], w, l.prog, mg, base, 1⟩ mg "InvalidNet" 3 := calE_mk (G := ⟨K, clsA K0 K1 ea0 ea1 ea2 ea3 ea4 ea5, fldA, [], w, l.prog, mg, base, 1⟩) 3 rfl sb_InvalidNet kp_InvalidNet kk_InvalidNet kn_InvalidNet (PySem.W.mg_of X G xa1) (PySem.W.mg_none_of X G z_super) xl1 xc1 xq1 xv1 xf1 xe1 xt1 xp1 xC1 xb1 xs1 xx1 xy1 xk1 xu1 xo1 xw1 xi1 xt_1 xm1 xd1
  have CE_InvalidPhases : CalE l.prog ⟨K, clsA K0 K1 ea0 ea1 ea2 ea3 ea4 ea5, fldA, [], w, l.prog, mg, base, 1⟩ mg "InvalidPhases" 4 := calE_mk (G := ⟨K, clsA K0 K1 ea0 ea1 ea2 ea3 ea4 ea5, fldA, [], w, l.prog, mg, base, 1⟩) 4 rfl sb_InvalidPhases kp_InvalidPhases kk_InvalidPhases kn_InvalidPhases (PySem.W.mg_of X G xa2) (PySem.W.mg_none_of X G z_super) xl2 xc2 xq2 xv2 xf2 xe2 xt2 xp2 xC2 xb2 xs2 xx2 xy2 xk2 xu2 xo2 xw2 xi2 xt_2 xm2 xd2
  have CE_InvalidPath : CalE l.prog ⟨K, clsA K0 K1 ea0 ea1 ea2 ea3 ea4 ea5, fldA, [], w, l.prog, mg, base, 1⟩ mg "InvalidPath" 5 := calE_mk (G := ⟨K, clsA K0 K1 ea0 ea1 ea2 ea3 ea4 ea5, fldA, [], w, l.prog, mg, base, 1⟩) 5 rfl sb_InvalidPath kp_InvalidPath kk_InvalidPath kn_InvalidPath (PySem.W.mg_of X G xa3) (PySem.W.mg_none_of X G z_super) xl3 xc3 xq3 xv3 xf3 xe3 xt3 xp3 xC3 xb3 xs3 xx3 xy3 xk3 xu3 xo3 xw3 xi3 xt_3 xm3 xd3
  have CE_InvalidName : CalE l.prog ⟨K, clsA K0 K1 ea0 ea1 ea2 ea3 ea4 ea5, fldA, [], w, l.prog, mg, base, 1⟩ mg "InvalidName" 6 := calE_mk (G := ⟨K, clsA K0 K1 ea0 ea1 ea2 ea3 ea4 ea5, fldA, [], w, l.prog, mg, base, 1⟩) 6 rfl sb_InvalidName kp_InvalidName kk_InvalidName kn_InvalidName (PySem.W.mg_of X G xa4) (PySem.W.mg_none_of X G z_super) xl4 xc4 xq4 xv4 xf4 xe4 xt4 xp4 xC4 xb4 xs4 xx4 xy4 xk4 xu4 xo4 xw4 xi4 xt_4 xm4 xd4
  have CE_InvalidNumber : CalE l.prog ⟨K, clsA K0 K1 ea0 ea1 ea2 ea3 ea4 ea5, fldA, [], w, l.prog, mg, base, 1⟩ mg "InvalidNumber" 7 := calE_mk (G := ⟨K, clsA K0 K1 ea0 ea1 ea2 ea3 ea4 ea5, fldA, [], w, l.prog, mg, base, 1⟩) 7 rfl sb_InvalidNumber kp_InvalidNumber kk_InvalidNumber kn_InvalidNumber (PySem.W.mg_of X G xa5) (PySem.W.mg_none_of X G z_super) xl5 xc5 xq5 xv5 xf5 xe5 xt5 xp5 xC5 xb5 xs5 xx5 xy5 xk5 xu5 xo5 xw5 xi5 xt_5 xm5 xd5
  have O0 := ok_law_purse (G := ⟨K, clsA K0 K1 ea0 ea1 ea2 ea3 ea4 ea5, fldA, [], w, l.prog, mg, base, 1⟩) T F0 
  have C__law_purse : CalM l.prog w ⟨K, clsA K0 K1 ea0 ea1 ea2 ea3 ea4 ea5, fldA, [], w, l.prog, mg, base, 1⟩ mg base "_law_purse" 1 2 m_law_purse := ⟨_, _, _, PySem.W.mg_of X G a0, k0, b0, O0⟩
  have O1 := ok_is_name (G := ⟨K, clsA K0 K1 ea0 ea1 ea2 ea3 ea4 ea5, fldA, [], w, l.prog, mg, base, 1⟩) T F1 
  have C_is_name : Cal l.prog w ⟨K, clsA K0 K1 ea0 ea1 ea2 ea3 ea4 ea5, fldA, [], w, l.prog, mg, base, 1⟩ mg base "is_name" 1 1 m_is_name := ⟨_, _, _, PySem.W.mg_of X G a1, k1, b1, O1⟩
  have O2 := ok_is_whole (G := ⟨K, clsA K0 K1 ea0 ea1 ea2 ea3 ea4 ea5, fldA, [], w, l.prog, mg, base, 1⟩) T F2 
  have C_is_whole : Cal l.prog w ⟨K, clsA K0 K1 ea0 ea1 ea2 ea3 ea4 ea5, fldA, [], w, l.prog, mg, base, 1⟩ mg base "is_whole" 1 1 m_is_whole := ⟨_, _, _, PySem.W.mg_of X G a2, k2, b2, O2⟩
  have O3 := ok_are_names (G := ⟨K, clsA K0 K1 ea0 ea1 ea2 ea3 ea4 ea5, fldA, [], w, l.prog, mg, base, 1⟩) T F3 C_is_name
  have C_are_names : Cal l.prog w ⟨K, clsA K0 K1 ea0 ea1 ea2 ea3 ea4 ea5, fldA, [], w, l.prog, mg, base, 1⟩ mg base "are_names" 2 1 m_are_names := ⟨_, _, _, PySem.W.mg_of X G a3, k3, b3, O3⟩
  have O4 := ok_Step_init (G := ⟨K, clsA K0 K1 ea0 ea1 ea2 ea3 ea4 ea5, fldA, [], w, l.prog, mg, base, 1⟩) T F4 C_is_name C_is_whole C_are_names
  have C_Step : CalC l.prog w ⟨K, clsA K0 K1 ea0 ea1 ea2 ea3 ea4 ea5, fldA, [], w, l.prog, mg, base, 1⟩ mg base "Step" 3 5 0 m_Step_init := ⟨_, _, _, PySem.W.mg_of X G aC0, ⟨mk0, a4, i4, kc0⟩, b4, O4⟩
  have O5 := ok_are_steps (G := ⟨K, clsA K0 K1 ea0 ea1 ea2 ea3 ea4 ea5, fldA, [], w, l.prog, mg, base, 1⟩) T F5 C_are_names
  have C_are_steps : Cal l.prog w ⟨K, clsA K0 K1 ea0 ea1 ea2 ea3 ea4 ea5, fldA, [], w, l.prog, mg, base, 1⟩ mg base "are_steps" 3 1 m_are_steps := ⟨_, _, _, PySem.W.mg_of X G a5, k5, b5, O5⟩
  have O6 := ok_Net_init (G := ⟨K, clsA K0 K1 ea0 ea1 ea2 ea3 ea4 ea5, fldA, [], w, l.prog, mg, base, 1⟩) T F6 C_are_steps
  have C_Net : CalC l.prog w ⟨K, clsA K0 K1 ea0 ea1 ea2 ea3 ea4 ea5, fldA, [], w, l.prog, mg, base, 1⟩ mg base "Net" 4 2 1 m_Net_init := ⟨_, _, _, PySem.W.mg_of X G aC1, ⟨mk1, a6, i6, kc1⟩, b6, O6⟩
  have O7 := ok_law_made (G := ⟨K, clsA K0 K1 ea0 ea1 ea2 ea3 ea4 ea5, fldA, [], w, l.prog, mg, base, 1⟩) T F7 C_Step C_Net
  have C__law_made : Cal l.prog w ⟨K, clsA K0 K1 ea0 ea1 ea2 ea3 ea4 ea5, fldA, [], w, l.prog, mg, base, 1⟩ mg base "_law_made" 6 1 m_law_made := ⟨_, _, _, PySem.W.mg_of X G a7, k7, b7, O7⟩
  have O8 := ok_law_draw (G := ⟨K, clsA K0 K1 ea0 ea1 ea2 ea3 ea4 ea5, fldA, [], w, l.prog, mg, base, 1⟩) T F8 
  have C__law_draw : Cal l.prog w ⟨K, clsA K0 K1 ea0 ea1 ea2 ea3 ea4 ea5, fldA, [], w, l.prog, mg, base, 1⟩ mg base "_law_draw" 1 2 m_law_draw := ⟨_, _, _, PySem.W.mg_of X G a8, k8, b8, O8⟩
  have O9 := ok_law_pick (G := ⟨K, clsA K0 K1 ea0 ea1 ea2 ea3 ea4 ea5, fldA, [], w, l.prog, mg, base, 1⟩) T F9 C__law_draw
  have C__law_pick : Cal l.prog w ⟨K, clsA K0 K1 ea0 ea1 ea2 ea3 ea4 ea5, fldA, [], w, l.prog, mg, base, 1⟩ mg base "_law_pick" 2 2 m_law_pick := ⟨_, _, _, PySem.W.mg_of X G a9, k9, b9, O9⟩
  have O10 := ok_law_phases (G := ⟨K, clsA K0 K1 ea0 ea1 ea2 ea3 ea4 ea5, fldA, [], w, l.prog, mg, base, 1⟩) T F10 C__law_pick C__law_draw
  have C__law_phases : Cal l.prog w ⟨K, clsA K0 K1 ea0 ea1 ea2 ea3 ea4 ea5, fldA, [], w, l.prog, mg, base, 1⟩ mg base "_law_phases" 3 2 m_law_phases := ⟨_, _, _, PySem.W.mg_of X G a10, k10, b10, O10⟩
  have O11 := ok_law_run (G := ⟨K, clsA K0 K1 ea0 ea1 ea2 ea3 ea4 ea5, fldA, [], w, l.prog, mg, base, 1⟩) T F11 C__law_draw C__law_pick
  have C__law_run : Cal l.prog w ⟨K, clsA K0 K1 ea0 ea1 ea2 ea3 ea4 ea5, fldA, [], w, l.prog, mg, base, 1⟩ mg base "_law_run" 3 1 m_law_run := ⟨_, _, _, PySem.W.mg_of X G a11, k11, b11, O11⟩
  have O12 := ok_check_net (G := ⟨K, clsA K0 K1 ea0 ea1 ea2 ea3 ea4 ea5, fldA, [], w, l.prog, mg, base, 1⟩) T F12 
  have C_check_net : Cal l.prog w ⟨K, clsA K0 K1 ea0 ea1 ea2 ea3 ea4 ea5, fldA, [], w, l.prog, mg, base, 1⟩ mg base "check_net" 1 1 m_check_net := ⟨_, _, _, PySem.W.mg_of X G a12, k12, b12, O12⟩
  have O13 := ok_is_fraction (G := ⟨K, clsA K0 K1 ea0 ea1 ea2 ea3 ea4 ea5, fldA, [], w, l.prog, mg, base, 1⟩) T F13 C_is_whole
  have C_is_fraction : Cal l.prog w ⟨K, clsA K0 K1 ea0 ea1 ea2 ea3 ea4 ea5, fldA, [], w, l.prog, mg, base, 1⟩ mg base "is_fraction" 2 1 m_is_fraction := ⟨_, _, _, PySem.W.mg_of X G a13, k13, b13, O13⟩
  have O14 := ok_check_phases (G := ⟨K, clsA K0 K1 ea0 ea1 ea2 ea3 ea4 ea5, fldA, [], w, l.prog, mg, base, 1⟩) T F14 C_is_fraction
  have C_check_phases : Cal l.prog w ⟨K, clsA K0 K1 ea0 ea1 ea2 ea3 ea4 ea5, fldA, [], w, l.prog, mg, base, 1⟩ mg base "check_phases" 3 2 m_check_phases := ⟨_, _, _, PySem.W.mg_of X G a14, k14, b14, O14⟩
  have O15 := ok_check_net_and_phases (G := ⟨K, clsA K0 K1 ea0 ea1 ea2 ea3 ea4 ea5, fldA, [], w, l.prog, mg, base, 1⟩) T F15 C_check_net C_check_phases
  have C_check_net_and_phases : Cal l.prog w ⟨K, clsA K0 K1 ea0 ea1 ea2 ea3 ea4 ea5, fldA, [], w, l.prog, mg, base, 1⟩ mg base "check_net_and_phases" 4 2 m_check_net_and_phases := ⟨_, _, _, PySem.W.mg_of X G a15, k15, b15, O15⟩
  have O16 := ok_place_of (G := ⟨K, clsA K0 K1 ea0 ea1 ea2 ea3 ea4 ea5, fldA, [], w, l.prog, mg, base, 1⟩) T F16 
  have C_place_of : Cal l.prog w ⟨K, clsA K0 K1 ea0 ea1 ea2 ea3 ea4 ea5, fldA, [], w, l.prog, mg, base, 1⟩ mg base "place_of" 1 2 m_place_of := ⟨_, _, _, PySem.W.mg_of X G a16, k16, b16, O16⟩
  have O17 := ok_check_name (G := ⟨K, clsA K0 K1 ea0 ea1 ea2 ea3 ea4 ea5, fldA, [], w, l.prog, mg, base, 1⟩) T F17 C_place_of
  have C_check_name : Cal l.prog w ⟨K, clsA K0 K1 ea0 ea1 ea2 ea3 ea4 ea5, fldA, [], w, l.prog, mg, base, 1⟩ mg base "check_name" 2 2 m_check_name := ⟨_, _, _, PySem.W.mg_of X G a17, k17, b17, O17⟩
  have O18 := ok_check_whole (G := ⟨K, clsA K0 K1 ea0 ea1 ea2 ea3 ea4 ea5, fldA, [], w, l.prog, mg, base, 1⟩) T F18 C_is_whole
  have C_check_whole : Cal l.prog w ⟨K, clsA K0 K1 ea0 ea1 ea2 ea3 ea4 ea5, fldA, [], w, l.prog, mg, base, 1⟩ mg base "check_whole" 2 1 m_check_whole := ⟨_, _, _, PySem.W.mg_of X G a18, k18, b18, O18⟩
  have O19 := ok_common_divisor (G := ⟨K, clsA K0 K1 ea0 ea1 ea2 ea3 ea4 ea5, fldA, [], w, l.prog, mg, base, 1⟩) T F19 
  have C_common_divisor : Cal l.prog w ⟨K, clsA K0 K1 ea0 ea1 ea2 ea3 ea4 ea5, fldA, [], w, l.prog, mg, base, 1⟩ mg base "common_divisor" 1 2 m_common_divisor := ⟨_, _, _, PySem.W.mg_of X G a19, k19, b19, O19⟩
  have O20 := ok_common_multiple (G := ⟨K, clsA K0 K1 ea0 ea1 ea2 ea3 ea4 ea5, fldA, [], w, l.prog, mg, base, 1⟩) T F20 C_common_divisor
  have C_common_multiple : Cal l.prog w ⟨K, clsA K0 K1 ea0 ea1 ea2 ea3 ea4 ea5, fldA, [], w, l.prog, mg, base, 1⟩ mg base "common_multiple" 2 1 m_common_multiple := ⟨_, _, _, PySem.W.mg_of X G a20, k20, b20, O20⟩
  have O21 := ok_in_units (G := ⟨K, clsA K0 K1 ea0 ea1 ea2 ea3 ea4 ea5, fldA, [], w, l.prog, mg, base, 1⟩) T F21 C_common_multiple
  have C_in_units : Cal l.prog w ⟨K, clsA K0 K1 ea0 ea1 ea2 ea3 ea4 ea5, fldA, [], w, l.prog, mg, base, 1⟩ mg base "in_units" 3 1 m_in_units := ⟨_, _, _, PySem.W.mg_of X G a21, k21, b21, O21⟩
  have O22 := ok_time_begun (G := ⟨K, clsA K0 K1 ea0 ea1 ea2 ea3 ea4 ea5, fldA, [], w, l.prog, mg, base, 1⟩) T F22 
  have C_time_begun : Cal l.prog w ⟨K, clsA K0 K1 ea0 ea1 ea2 ea3 ea4 ea5, fldA, [], w, l.prog, mg, base, 1⟩ mg base "time_begun" 1 5 m_time_begun := ⟨_, _, _, PySem.W.mg_of X G a22, k22, b22, O22⟩
  have O23 := ok_lowest (G := ⟨K, clsA K0 K1 ea0 ea1 ea2 ea3 ea4 ea5, fldA, [], w, l.prog, mg, base, 1⟩) T F23 C_common_divisor
  have C_lowest : Cal l.prog w ⟨K, clsA K0 K1 ea0 ea1 ea2 ea3 ea4 ea5, fldA, [], w, l.prog, mg, base, 1⟩ mg base "lowest" 2 2 m_lowest := ⟨_, _, _, PySem.W.mg_of X G a23, k23, b23, O23⟩
  have O24 := ok_begun (G := ⟨K, clsA K0 K1 ea0 ea1 ea2 ea3 ea4 ea5, fldA, [], w, l.prog, mg, base, 1⟩) T F24 C_check_net_and_phases C_check_name C_check_whole C_in_units C_place_of C_time_begun C_lowest
  have C_begun : Cal l.prog w ⟨K, clsA K0 K1 ea0 ea1 ea2 ea3 ea4 ea5, fldA, [], w, l.prog, mg, base, 1⟩ mg base "begun" 5 4 m_begun := ⟨_, _, _, PySem.W.mg_of X G a24, k24, b24, O24⟩
  have O25 := ok_run_read (G := ⟨K, clsA K0 K1 ea0 ea1 ea2 ea3 ea4 ea5, fldA, [], w, l.prog, mg, base, 1⟩) T F25 
  have C_run_read : Cal l.prog w ⟨K, clsA K0 K1 ea0 ea1 ea2 ea3 ea4 ea5, fldA, [], w, l.prog, mg, base, 1⟩ mg base "run_read" 1 6 m_run_read := ⟨_, _, _, PySem.W.mg_of X G a25, k25, b25, O25⟩
  have O26 := ok_newest (G := ⟨K, clsA K0 K1 ea0 ea1 ea2 ea3 ea4 ea5, fldA, [], w, l.prog, mg, base, 1⟩) T F26 C_check_net_and_phases C_check_name C_place_of C_check_whole C_in_units C_run_read
  have C_newest : Cal l.prog w ⟨K, clsA K0 K1 ea0 ea1 ea2 ea3 ea4 ea5, fldA, [], w, l.prog, mg, base, 1⟩ mg base "newest" 5 5 m_newest := ⟨_, _, _, PySem.W.mg_of X G a26, k26, b26, O26⟩
  have O27 := ok_check_path (G := ⟨K, clsA K0 K1 ea0 ea1 ea2 ea3 ea4 ea5, fldA, [], w, l.prog, mg, base, 1⟩) T F27 C_place_of
  have C_check_path : Cal l.prog w ⟨K, clsA K0 K1 ea0 ea1 ea2 ea3 ea4 ea5, fldA, [], w, l.prog, mg, base, 1⟩ mg base "check_path" 2 2 m_check_path := ⟨_, _, _, PySem.W.mg_of X G a27, k27, b27, O27⟩
  have O28 := ok_places_of (G := ⟨K, clsA K0 K1 ea0 ea1 ea2 ea3 ea4 ea5, fldA, [], w, l.prog, mg, base, 1⟩) T F28 C_place_of
  have C_places_of : Cal l.prog w ⟨K, clsA K0 K1 ea0 ea1 ea2 ea3 ea4 ea5, fldA, [], w, l.prog, mg, base, 1⟩ mg base "places_of" 2 2 m_places_of := ⟨_, _, _, PySem.W.mg_of X G a28, k28, b28, O28⟩
  have O29 := ok_run_carried (G := ⟨K, clsA K0 K1 ea0 ea1 ea2 ea3 ea4 ea5, fldA, [], w, l.prog, mg, base, 1⟩) T F29 C_run_read
  have C_run_carried : Cal l.prog w ⟨K, clsA K0 K1 ea0 ea1 ea2 ea3 ea4 ea5, fldA, [], w, l.prog, mg, base, 1⟩ mg base "run_carried" 2 5 m_run_carried := ⟨_, _, _, PySem.W.mg_of X G a29, k29, b29, O29⟩
  have O30 := ok_carried (G := ⟨K, clsA K0 K1 ea0 ea1 ea2 ea3 ea4 ea5, fldA, [], w, l.prog, mg, base, 1⟩) T F30 C_check_net_and_phases C_check_path C_check_whole C_in_units C_places_of C_run_carried
  have C_carried : Cal l.prog w ⟨K, clsA K0 K1 ea0 ea1 ea2 ea3 ea4 ea5, fldA, [], w, l.prog, mg, base, 1⟩ mg base "carried" 5 4 m_carried := ⟨_, _, _, PySem.W.mg_of X G a30, k30, b30, O30⟩
  have O31 := ok_time_written (G := ⟨K, clsA K0 K1 ea0 ea1 ea2 ea3 ea4 ea5, fldA, [], w, l.prog, mg, base, 1⟩) T F31 C_time_begun
  have C_time_written : Cal l.prog w ⟨K, clsA K0 K1 ea0 ea1 ea2 ea3 ea4 ea5, fldA, [], w, l.prog, mg, base, 1⟩ mg base "time_written" 2 5 m_time_written := ⟨_, _, _, PySem.W.mg_of X G a31, k31, b31, O31⟩
  have O32 := ok_age_of (G := ⟨K, clsA K0 K1 ea0 ea1 ea2 ea3 ea4 ea5, fldA, [], w, l.prog, mg, base, 1⟩) T F32 C_time_written C_time_begun
  have C_age_of : Cal l.prog w ⟨K, clsA K0 K1 ea0 ea1 ea2 ea3 ea4 ea5, fldA, [], w, l.prog, mg, base, 1⟩ mg base "age_of" 3 6 m_age_of := ⟨_, _, _, PySem.W.mg_of X G a32, k32, b32, O32⟩
  have O33 := ok_age (G := ⟨K, clsA K0 K1 ea0 ea1 ea2 ea3 ea4 ea5, fldA, [], w, l.prog, mg, base, 1⟩) T F33 C_carried C_in_units C_places_of C_age_of C_lowest
  have C_age : Cal l.prog w ⟨K, clsA K0 K1 ea0 ea1 ea2 ea3 ea4 ea5, fldA, [], w, l.prog, mg, base, 1⟩ mg base "age" 6 4 m_age := ⟨_, _, _, PySem.W.mg_of X G a33, k33, b33, O33⟩
  have O34 := ok_whole_turn (G := ⟨K, clsA K0 K1 ea0 ea1 ea2 ea3 ea4 ea5, fldA, [], w, l.prog, mg, base, 1⟩) T F34 C_common_multiple
  have C_whole_turn : Cal l.prog w ⟨K, clsA K0 K1 ea0 ea1 ea2 ea3 ea4 ea5, fldA, [], w, l.prog, mg, base, 1⟩ mg base "whole_turn" 3 1 m_whole_turn := ⟨_, _, _, PySem.W.mg_of X G a34, k34, b34, O34⟩
  have O35 := ok_runs_in_turn (G := ⟨K, clsA K0 K1 ea0 ea1 ea2 ea3 ea4 ea5, fldA, [], w, l.prog, mg, base, 1⟩) T F35 C_whole_turn
  have C_runs_in_turn : Cal l.prog w ⟨K, clsA K0 K1 ea0 ea1 ea2 ea3 ea4 ea5, fldA, [], w, l.prog, mg, base, 1⟩ mg base "runs_in_turn" 4 2 m_runs_in_turn := ⟨_, _, _, PySem.W.mg_of X G a35, k35, b35, O35⟩
  have O36 := ok_all_carried (G := ⟨K, clsA K0 K1 ea0 ea1 ea2 ea3 ea4 ea5, fldA, [], w, l.prog, mg, base, 1⟩) T F36 C_runs_in_turn C_run_carried
  have C_all_carried : Cal l.prog w ⟨K, clsA K0 K1 ea0 ea1 ea2 ea3 ea4 ea5, fldA, [], w, l.prog, mg, base, 1⟩ mg base "all_carried" 5 4 m_all_carried := ⟨_, _, _, PySem.W.mg_of X G a36, k36, b36, O36⟩
  have O37 := ok_all_ages (G := ⟨K, clsA K0 K1 ea0 ea1 ea2 ea3 ea4 ea5, fldA, [], w, l.prog, mg, base, 1⟩) T F37 C_all_carried C_age_of
  have C_all_ages : Cal l.prog w ⟨K, clsA K0 K1 ea0 ea1 ea2 ea3 ea4 ea5, fldA, [], w, l.prog, mg, base, 1⟩ mg base "all_ages" 6 4 m_all_ages := ⟨_, _, _, PySem.W.mg_of X G a37, k37, b37, O37⟩
  have O38 := ok_ages (G := ⟨K, clsA K0 K1 ea0 ea1 ea2 ea3 ea4 ea5, fldA, [], w, l.prog, mg, base, 1⟩) T F38 C_check_net_and_phases C_check_path C_in_units C_places_of C_all_ages C_lowest
  have C_ages : Cal l.prog w ⟨K, clsA K0 K1 ea0 ea1 ea2 ea3 ea4 ea5, fldA, [], w, l.prog, mg, base, 1⟩ mg base "ages" 7 3 m_ages := ⟨_, _, _, PySem.W.mg_of X G a38, k38, b38, O38⟩
  have O39 := ok_greatest_wait (G := ⟨K, clsA K0 K1 ea0 ea1 ea2 ea3 ea4 ea5, fldA, [], w, l.prog, mg, base, 1⟩) T F39 C_all_carried C_time_written C_time_begun
  have C_greatest_wait : Cal l.prog w ⟨K, clsA K0 K1 ea0 ea1 ea2 ea3 ea4 ea5, fldA, [], w, l.prog, mg, base, 1⟩ mg base "greatest_wait" 6 4 m_greatest_wait := ⟨_, _, _, PySem.W.mg_of X G a39, k39, b39, O39⟩
  have O40 := ok_longest_wait (G := ⟨K, clsA K0 K1 ea0 ea1 ea2 ea3 ea4 ea5, fldA, [], w, l.prog, mg, base, 1⟩) T F40 C_check_net_and_phases C_check_path C_in_units C_places_of C_greatest_wait C_lowest
  have C_longest_wait : Cal l.prog w ⟨K, clsA K0 K1 ea0 ea1 ea2 ea3 ea4 ea5, fldA, [], w, l.prog, mg, base, 1⟩ mg base "longest_wait" 7 3 m_longest_wait := ⟨_, _, _, PySem.W.mg_of X G a40, k40, b40, O40⟩
  have O41 := ok_many_used (G := ⟨K, clsA K0 K1 ea0 ea1 ea2 ea3 ea4 ea5, fldA, [], w, l.prog, mg, base, 1⟩) T F41 C_all_carried
  have C_many_used : Cal l.prog w ⟨K, clsA K0 K1 ea0 ea1 ea2 ea3 ea4 ea5, fldA, [], w, l.prog, mg, base, 1⟩ mg base "many_used" 6 4 m_many_used := ⟨_, _, _, PySem.W.mg_of X G a41, k41, b41, O41⟩
  have O42 := ok_uses (G := ⟨K, clsA K0 K1 ea0 ea1 ea2 ea3 ea4 ea5, fldA, [], w, l.prog, mg, base, 1⟩) T F42 C_check_net_and_phases C_check_path C_in_units C_places_of C_many_used C_runs_in_turn
  have C_uses : Cal l.prog w ⟨K, clsA K0 K1 ea0 ea1 ea2 ea3 ea4 ea5, fldA, [], w, l.prog, mg, base, 1⟩ mg base "uses" 7 3 m_uses := ⟨_, _, _, PySem.W.mg_of X G a42, k42, b42, O42⟩
  have O43 := ok_law_called (G := ⟨K, clsA K0 K1 ea0 ea1 ea2 ea3 ea4 ea5, fldA, [], w, l.prog, mg, base, 1⟩) T F43 C_begun C_newest C_carried C_age C_ages C_longest_wait C_uses
  have C__law_called : Cal l.prog w ⟨K, clsA K0 K1 ea0 ea1 ea2 ea3 ea4 ea5, fldA, [], w, l.prog, mg, base, 1⟩ mg base "_law_called" 8 2 m_law_called := ⟨_, _, _, PySem.W.mg_of X G a43, k43, b43, O43⟩
  have O44 := ok_law_kinds (G := ⟨K, clsA K0 K1 ea0 ea1 ea2 ea3 ea4 ea5, fldA, [], w, l.prog, mg, base, 1⟩) T F44 
  have C__law_kinds : Cal l.prog w ⟨K, clsA K0 K1 ea0 ea1 ea2 ea3 ea4 ea5, fldA, [], w, l.prog, mg, base, 1⟩ mg base "_law_kinds" 1 1 m_law_kinds := ⟨_, _, _, PySem.W.mg_of X G a44, k44, b44, O44⟩
  have O45 := ok_law_odd (G := ⟨K, clsA K0 K1 ea0 ea1 ea2 ea3 ea4 ea5, fldA, [], w, l.prog, mg, base, 1⟩) T F45 
  have C__law_odd : Cal l.prog w ⟨K, clsA K0 K1 ea0 ea1 ea2 ea3 ea4 ea5, fldA, [], w, l.prog, mg, base, 1⟩ mg base "_law_odd" 1 4 m_law_odd := ⟨_, _, _, PySem.W.mg_of X G a45, k45, b45, O45⟩
  have O46 := okx_check_net (G := ⟨K, clsA K0 K1 ea0 ea1 ea2 ea3 ea4 ea5, fldA, [], w, l.prog, mg, base, 1⟩) T F46 CE_InvalidNet
  have CR_check_net : CalR l.prog w ⟨K, clsA K0 K1 ea0 ea1 ea2 ea3 ea4 ea5, fldA, [], w, l.prog, mg, base, 1⟩ mg base "check_net" 2 1 mx_check_net := ⟨_, _, _, PySem.W.mg_of X G a46, k46, b46, O46⟩
  have O47 := okx_check_phases (G := ⟨K, clsA K0 K1 ea0 ea1 ea2 ea3 ea4 ea5, fldA, [], w, l.prog, mg, base, 1⟩) T F47 CE_InvalidPhases C_is_fraction
  have CR_check_phases : CalR l.prog w ⟨K, clsA K0 K1 ea0 ea1 ea2 ea3 ea4 ea5, fldA, [], w, l.prog, mg, base, 1⟩ mg base "check_phases" 3 2 mx_check_phases := ⟨_, _, _, PySem.W.mg_of X G a47, k47, b47, O47⟩
  have O48 := okx_check_net_and_phases (G := ⟨K, clsA K0 K1 ea0 ea1 ea2 ea3 ea4 ea5, fldA, [], w, l.prog, mg, base, 1⟩) T F48 CR_check_net CR_check_phases
  have CR_check_net_and_phases : CalR l.prog w ⟨K, clsA K0 K1 ea0 ea1 ea2 ea3 ea4 ea5, fldA, [], w, l.prog, mg, base, 1⟩ mg base "check_net_and_phases" 4 2 mx_check_net_and_phases := ⟨_, _, _, PySem.W.mg_of X G a48, k48, b48, O48⟩
  have O49 := okx_check_name (G := ⟨K, clsA K0 K1 ea0 ea1 ea2 ea3 ea4 ea5, fldA, [], w, l.prog, mg, base, 1⟩) T F49 C_place_of CE_InvalidName
  have CR_check_name : CalR l.prog w ⟨K, clsA K0 K1 ea0 ea1 ea2 ea3 ea4 ea5, fldA, [], w, l.prog, mg, base, 1⟩ mg base "check_name" 2 2 mx_check_name := ⟨_, _, _, PySem.W.mg_of X G a49, k49, b49, O49⟩
  have O50 := okx_check_whole (G := ⟨K, clsA K0 K1 ea0 ea1 ea2 ea3 ea4 ea5, fldA, [], w, l.prog, mg, base, 1⟩) T F50 C_is_whole CE_InvalidNumber
  have CR_check_whole : CalR l.prog w ⟨K, clsA K0 K1 ea0 ea1 ea2 ea3 ea4 ea5, fldA, [], w, l.prog, mg, base, 1⟩ mg base "check_whole" 2 1 mx_check_whole := ⟨_, _, _, PySem.W.mg_of X G a50, k50, b50, O50⟩
  have O51 := okx_begun (G := ⟨K, clsA K0 K1 ea0 ea1 ea2 ea3 ea4 ea5, fldA, [], w, l.prog, mg, base, 1⟩) T F51 CR_check_net_and_phases CR_check_name CR_check_whole C_in_units C_place_of C_time_begun C_lowest
  have CR_begun : CalR l.prog w ⟨K, clsA K0 K1 ea0 ea1 ea2 ea3 ea4 ea5, fldA, [], w, l.prog, mg, base, 1⟩ mg base "begun" 5 4 mx_begun := ⟨_, _, _, PySem.W.mg_of X G a51, k51, b51, O51⟩
  have O52 := okx_newest (G := ⟨K, clsA K0 K1 ea0 ea1 ea2 ea3 ea4 ea5, fldA, [], w, l.prog, mg, base, 1⟩) T F52 CR_check_net_and_phases CR_check_name C_place_of CE_InvalidName CR_check_whole C_in_units C_run_read
  have CR_newest : CalR l.prog w ⟨K, clsA K0 K1 ea0 ea1 ea2 ea3 ea4 ea5, fldA, [], w, l.prog, mg, base, 1⟩ mg base "newest" 5 5 mx_newest := ⟨_, _, _, PySem.W.mg_of X G a52, k52, b52, O52⟩
  have O53 := okx_check_path (G := ⟨K, clsA K0 K1 ea0 ea1 ea2 ea3 ea4 ea5, fldA, [], w, l.prog, mg, base, 1⟩) T F53 C_place_of CE_InvalidPath
  have CR_check_path : CalR l.prog w ⟨K, clsA K0 K1 ea0 ea1 ea2 ea3 ea4 ea5, fldA, [], w, l.prog, mg, base, 1⟩ mg base "check_path" 2 2 mx_check_path := ⟨_, _, _, PySem.W.mg_of X G a53, k53, b53, O53⟩
  have O54 := okx_carried (G := ⟨K, clsA K0 K1 ea0 ea1 ea2 ea3 ea4 ea5, fldA, [], w, l.prog, mg, base, 1⟩) T F54 CR_check_net_and_phases CR_check_path CR_check_whole C_in_units C_places_of C_run_carried
  have CR_carried : CalR l.prog w ⟨K, clsA K0 K1 ea0 ea1 ea2 ea3 ea4 ea5, fldA, [], w, l.prog, mg, base, 1⟩ mg base "carried" 5 4 mx_carried := ⟨_, _, _, PySem.W.mg_of X G a54, k54, b54, O54⟩
  have O55 := okx_age (G := ⟨K, clsA K0 K1 ea0 ea1 ea2 ea3 ea4 ea5, fldA, [], w, l.prog, mg, base, 1⟩) T F55 CR_carried C_in_units C_places_of C_age_of C_lowest
  have CR_age : CalR l.prog w ⟨K, clsA K0 K1 ea0 ea1 ea2 ea3 ea4 ea5, fldA, [], w, l.prog, mg, base, 1⟩ mg base "age" 6 4 mx_age := ⟨_, _, _, PySem.W.mg_of X G a55, k55, b55, O55⟩
  have O56 := okx_ages (G := ⟨K, clsA K0 K1 ea0 ea1 ea2 ea3 ea4 ea5, fldA, [], w, l.prog, mg, base, 1⟩) T F56 CR_check_net_and_phases CR_check_path C_in_units C_places_of C_all_ages C_lowest
  have CR_ages : CalR l.prog w ⟨K, clsA K0 K1 ea0 ea1 ea2 ea3 ea4 ea5, fldA, [], w, l.prog, mg, base, 1⟩ mg base "ages" 7 3 mx_ages := ⟨_, _, _, PySem.W.mg_of X G a56, k56, b56, O56⟩
  have O57 := okx_longest_wait (G := ⟨K, clsA K0 K1 ea0 ea1 ea2 ea3 ea4 ea5, fldA, [], w, l.prog, mg, base, 1⟩) T F57 CR_check_net_and_phases CR_check_path C_in_units C_places_of C_greatest_wait C_lowest
  have CR_longest_wait : CalR l.prog w ⟨K, clsA K0 K1 ea0 ea1 ea2 ea3 ea4 ea5, fldA, [], w, l.prog, mg, base, 1⟩ mg base "longest_wait" 7 3 mx_longest_wait := ⟨_, _, _, PySem.W.mg_of X G a57, k57, b57, O57⟩
  have O58 := okx_uses (G := ⟨K, clsA K0 K1 ea0 ea1 ea2 ea3 ea4 ea5, fldA, [], w, l.prog, mg, base, 1⟩) T F58 CR_check_net_and_phases CR_check_path C_in_units C_places_of C_many_used C_runs_in_turn
  have CR_uses : CalR l.prog w ⟨K, clsA K0 K1 ea0 ea1 ea2 ea3 ea4 ea5, fldA, [], w, l.prog, mg, base, 1⟩ mg base "uses" 7 3 mx_uses := ⟨_, _, _, PySem.W.mg_of X G a58, k58, b58, O58⟩
  have O59 := okx_law_called (G := ⟨K, clsA K0 K1 ea0 ea1 ea2 ea3 ea4 ea5, fldA, [], w, l.prog, mg, base, 1⟩) T F59 CR_begun CR_newest CR_carried CR_age CR_ages CR_longest_wait CR_uses
  have CR_law_called : CalR l.prog w ⟨K, clsA K0 K1 ea0 ea1 ea2 ea3 ea4 ea5, fldA, [], w, l.prog, mg, base, 1⟩ mg base "_law_called" 8 2 mx_law_called := ⟨_, _, _, PySem.W.mg_of X G a59, k59, b59, O59⟩
  have O60 := ok_law_refused (G := ⟨K, clsA K0 K1 ea0 ea1 ea2 ea3 ea4 ea5, fldA, [], w, l.prog, mg, base, 1⟩) T F60 CR_law_called law_refused_len law_refused_ok
  have CH_law_refused : CalH l.prog w ⟨K, clsA K0 K1 ea0 ea1 ea2 ea3 ea4 ea5, fldA, [], w, l.prog, mg, base, 1⟩ mg base "_law_refused" 9 _ := ⟨_, _, _, PySem.W.mg_of X G a60, k60, b60, O60⟩
  have O61 := ok_law_way_right (G := ⟨K, clsA K0 K1 ea0 ea1 ea2 ea3 ea4 ea5, fldA, [], w, l.prog, mg, base, 1⟩) T F61 C__law_kinds C__law_odd CH_law_refused law_way_right_len law_way_right_ok
  have CH_law_way_right : CalH l.prog w ⟨K, clsA K0 K1 ea0 ea1 ea2 ea3 ea4 ea5, fldA, [], w, l.prog, mg, base, 1⟩ mg base "_law_way_right" 10 _ := ⟨_, _, _, PySem.W.mg_of X G a61, k61, b61, O61⟩
  have O62 := ok_law (G := ⟨K, clsA K0 K1 ea0 ea1 ea2 ea3 ea4 ea5, fldA, [], w, l.prog, mg, base, 1⟩) T F62 C__law_purse C__law_made C__law_phases C__law_run C__law_called CH_law_way_right CH_law_refused law_all
  exact O62
end Toy
def PySem.W.Fast.tw17051780251262170980 : Nat := 0
def PySem.W.Fast.tw2591808864283166568 : Nat := 0
def PySem.W.Fast.tw5244358431710588507 : Nat := 0
def PySem.W.Fast.tw15730663473265513280 : Nat := 0
def PySem.W.Fast.tw11519407272608708108 : Nat := 0
def PySem.W.Fast.tw6723984816140448185 : Nat := 0
def PySem.W.Fast.tw7010486009401558214 : Nat := 0
def PySem.W.Fast.tw13672576122979850800 : Nat := 0
def PySem.W.Fast.tw16843116599030185704 : Nat := 0
def PySem.W.Fast.tw7732744298969079887 : Nat := 0
def PySem.W.Fast.tw2489841626717071757 : Nat := 0
def PySem.W.Fast.tw11465597995870552898 : Nat := 0
def PySem.W.Fast.tw13471434010523323814 : Nat := 0
def PySem.W.Fast.tw5878745997889328231 : Nat := 0
def PySem.W.Fast.tw1860941273568167361 : Nat := 0
def PySem.W.Fast.tw18340657636642053475 : Nat := 0
def PySem.W.Fast.tw10042052997205013304 : Nat := 0
def PySem.W.Fast.tw901813596475203485 : Nat := 0
def PySem.W.Fast.tw16007009455847791282 : Nat := 0
def PySem.W.Fast.tw1487086261463742943 : Nat := 0
open PySem PySem.W PyProof.Rows
set_option maxRecDepth 100000 in
set_option maxHeartbeats 0 in
theorem PySem.Challenge.cw_agedreads_k13_runs_refused_holds : PySem.Challenge.rw_agedreads_k13_runs_refused.Holds := by
  w_on; o_law; k_head; (case hw => w_witness2)
  k_fill
  refine VS.walk_ofT (l := PySem.Challenge.rw_agedreads_k13_runs_refused) (k := 11) (x := "_law_script") [] rfl rfl ⟨rfl, by decide, by decide⟩ (fun w h Y => by first | exact PySem.W.kIn_of Y | exact PySem.W.km_in_of Y) (by decide +kernel) ?F
  case F =>
    intro w mg fa h KX G hmg
    refine' Toy.all_mk KX G hmg ?aC0 ?pg0 ?hd0 ?po0 ?sa0 ?mk0 ?kc0 ?ha0 ?mr0 ?na0_label ?na0_turn ?na0_lag ?na0_sources ?kb0_NoneType ?kb0_bool ?kb0_int ?kb0_str ?kb0_list ?kb0_tuple ?kb0_dict ?aC1 ?pg1 ?hd1 ?po1 ?sa1 ?mk1 ?kc1 ?ha1 ?mr1 ?na1_nodes ?kb1_NoneType ?kb1_bool ?kb1_int ?kb1_str ?kb1_list ?kb1_tuple ?kb1_dict ?xa0 ?xx0 ?xy0 ?xw0 ?xg0 ?xh0 ?xn0 ?xa1 ?xi1 ?xl1 ?xc1 ?xq1 ?xv1 ?xf1 ?xe1 ?xt1 ?xp1 ?xC1 ?xb1 ?xs1 ?xx1 ?xy1 ?xk1 ?xu1 ?xo1 ?xw1 ?xt_1 ?xm1 ?xd1 ?xg1 ?xh1 ?xn1 ?xa2 ?xi2 ?xl2 ?xc2 ?xq2 ?xv2 ?xf2 ?xe2 ?xt2 ?xp2 ?xC2 ?xb2 ?xs2 ?xx2 ?xy2 ?xk2 ?xu2 ?xo2 ?xw2 ?xt_2 ?xm2 ?xd2 ?xg2 ?xh2 ?xn2 ?xa3 ?xi3 ?xl3 ?xc3 ?xq3 ?xv3 ?xf3 ?xe3 ?xt3 ?xp3 ?xC3 ?xb3 ?xs3 ?xx3 ?xy3 ?xk3 ?xu3 ?xo3 ?xw3 ?xt_3 ?xm3 ?xd3 ?xg3 ?xh3 ?xn3 ?xa4 ?xi4 ?xl4 ?xc4 ?xq4 ?xv4 ?xf4 ?xe4 ?xt4 ?xp4 ?xC4 ?xb4 ?xs4 ?xx4 ?xy4 ?xk4 ?xu4 ?xo4 ?xw4 ?xt_4 ?xm4 ?xd4 ?xg4 ?xh4 ?xn4 ?xa5 ?xi5 ?xl5 ?xc5 ?xq5 ?xv5 ?xf5 ?xe5 ?xt5 ?xp5 ?xC5 ?xb5 ?xs5 ?xx5 ?xy5 ?xk5 ?xu5 ?xo5 ?xw5 ?xt_5 ?xm5 ?xd5 ?xg5 ?xh5 ?xn5 ?hn ?tk ?a0 ?l0 ?c0 ?k0 ?a1 ?l1 ?c1 ?k1 ?a2 ?l2 ?c2 ?k2 ?a3 ?l3 ?c3 ?k3 ?a4 ?i4 ?l4 ?c4 ?k4 ?a5 ?l5 ?c5 ?k5 ?a6 ?i6 ?l6 ?c6 ?k6 ?a7 ?l7 ?c7 ?k7 ?a8 ?l8 ?c8 ?k8 ?a9 ?l9 ?c9 ?k9 ?a10 ?l10 ?c10 ?k10 ?a11 ?l11 ?c11 ?k11 ?a12 ?l12 ?c12 ?k12 ?a13 ?l13 ?c13 ?k13 ?a14 ?l14 ?c14 ?k14 ?a15 ?l15 ?c15 ?k15 ?a16 ?l16 ?c16 ?k16 ?a17 ?l17 ?c17 ?k17 ?a18 ?l18 ?c18 ?k18 ?a19 ?l19 ?c19 ?k19 ?a20 ?l20 ?c20 ?k20 ?a21 ?l21 ?c21 ?k21 ?a22 ?l22 ?c22 ?k22 ?a23 ?l23 ?c23 ?k23 ?a24 ?l24 ?c24 ?k24 ?a25 ?l25 ?c25 ?k25 ?a26 ?l26 ?c26 ?k26 ?a27 ?l27 ?c27 ?k27 ?a28 ?l28 ?c28 ?k28 ?a29 ?l29 ?c29 ?k29 ?a30 ?l30 ?c30 ?k30 ?a31 ?l31 ?c31 ?k31 ?a32 ?l32 ?c32 ?k32 ?a33 ?l33 ?c33 ?k33 ?a34 ?l34 ?c34 ?k34 ?a35 ?l35 ?c35 ?k35 ?a36 ?l36 ?c36 ?k36 ?a37 ?l37 ?c37 ?k37 ?a38 ?l38 ?c38 ?k38 ?a39 ?l39 ?c39 ?k39 ?a40 ?l40 ?c40 ?k40 ?a41 ?l41 ?c41 ?k41 ?a42 ?l42 ?c42 ?k42 ?a43 ?l43 ?c43 ?k43 ?a44 ?l44 ?c44 ?k44 ?a45 ?l45 ?c45 ?k45 ?a46 ?l46 ?c46 ?k46 ?a47 ?l47 ?c47 ?k47 ?a48 ?l48 ?c48 ?k48 ?a49 ?l49 ?c49 ?k49 ?a50 ?l50 ?c50 ?k50 ?a51 ?l51 ?c51 ?k51 ?a52 ?l52 ?c52 ?k52 ?a53 ?l53 ?c53 ?k53 ?a54 ?l54 ?c54 ?k54 ?a55 ?l55 ?c55 ?k55 ?a56 ?l56 ?c56 ?k56 ?a57 ?l57 ?c57 ?k57 ?a58 ?l58 ?c58 ?k58 ?a59 ?l59 ?c59 ?k59 ?a60 ?l60 ?c60 ?k60 ?a61 ?l61 ?c61 ?k61 ?a62 ?l62 ?c62 ?k62 ?z_abs ?z_bool ?z_enumerate ?z_int ?z_isinstance ?z_len ?z_list ?z_max ?z_range ?z_repr ?z_set ?z_sorted ?z_str ?z_super ?z_tuple ?z_zip ?v_LETTERS ?xha0 ?xhm0 ?xha1 ?xhm1 ?xha2 ?xhm2 ?xha3 ?xhm3 ?xha4 ?xhm4 ?xha5 ?xhm5 ?xB_AgedReadsError ?cb_AgedReadsError ?cd_AgedReadsError ?cy_AgedReadsError ?cs_AgedReadsError_0 ?cs_AgedReadsError_1 ?cs_AgedReadsError_2 ?cs_AgedReadsError_3 ?cs_AgedReadsError_4 ?cs_AgedReadsError_5 ?ki_InvalidNet_0 ?ki_InvalidNet_1 ?ki_InvalidNet_2 ?ki_InvalidNet_3 ?ki_InvalidNet_4 ?ki_InvalidNet_5 ?ki_InvalidPhases_0 ?ki_InvalidPhases_1 ?ki_InvalidPhases_2 ?ki_InvalidPhases_3 ?ki_InvalidPhases_4 ?ki_InvalidPhases_5 ?ki_InvalidName_0 ?ki_InvalidName_1 ?ki_InvalidName_2 ?ki_InvalidName_3 ?ki_InvalidName_4 ?ki_InvalidName_5 ?ki_InvalidPath_0 ?ki_InvalidPath_1 ?ki_InvalidPath_2 ?ki_InvalidPath_3 ?ki_InvalidPath_4 ?ki_InvalidPath_5 ?ki_InvalidNumber_0 ?ki_InvalidNumber_1 ?ki_InvalidNumber_2 ?ki_InvalidNumber_3 ?ki_InvalidNumber_4 ?ki_InvalidNumber_5
    (case aC0 => k_is); (case pg0 => k_is); (case hd0 => k_is); (case po0 => k_is); (case sa0 => k_is); (case mk0 => k_is)
    (case kc0 => k_is); (case ha0 => k_is); (case mr0 => k_is); (case na0_label => k_is); (case na0_turn => k_is); (case na0_lag => k_is)
    (case na0_sources => k_is); (case kb0_NoneType => kit_is); (case kb0_bool => kit_is); (case kb0_int => kit_is); (case kb0_str => kit_is); (case kb0_list => kit_is)
    (case kb0_tuple => kit_is); (case kb0_dict => kit_is); (case aC1 => k_is); (case pg1 => k_is); (case hd1 => k_is); (case po1 => k_is)
    (case sa1 => k_is); (case mk1 => k_is); (case kc1 => k_is); (case ha1 => k_is); (case mr1 => k_is); (case na1_nodes => k_is)
    (case kb1_NoneType => kit_is); (case kb1_bool => kit_is); (case kb1_int => kit_is); (case kb1_str => kit_is); (case kb1_list => kit_is); (case kb1_tuple => kit_is)
    (case kb1_dict => kit_is); (case xa0 => k_is); (case xx0 => k_is); (case xy0 => k_is); (case xw0 => k_is); (case xg0 => k_is)
    (case xh0 => k_is); (case xn0 => k_is); (case xa1 => k_is); (case xi1 => k_is); (case xl1 => k_is); (case xc1 => k_is)
    (case xq1 => k_is); (case xv1 => first | exact rfl | kernel_rfl); (case xf1 => first | exact rfl | decide +kernel | kernel_rfl); (case xe1 => k_is); (case xt1 => k_is); (case xp1 => first | exact rfl | decide +kernel | kernel_rfl)
    (case xC1 => k_is); (case xb1 => first | exact rfl | decide +kernel | kernel_rfl); (case xs1 => k_is); (case xx1 => k_is); (case xy1 => k_is); (case xk1 => k_is)
    (case xu1 => ks_is); (case xo1 => k_is); (case xw1 => k_is); (case xt_1 => k_is); (case xm1 => k_is); (case xd1 => k_is)
    (case xg1 => k_is); (case xh1 => k_is); (case xn1 => k_is); (case xa2 => k_is); (case xi2 => k_is); (case xl2 => k_is)
    (case xc2 => k_is); (case xq2 => k_is); (case xv2 => first | exact rfl | kernel_rfl); (case xf2 => first | exact rfl | decide +kernel | kernel_rfl); (case xe2 => k_is); (case xt2 => k_is)
    (case xp2 => first | exact rfl | decide +kernel | kernel_rfl); (case xC2 => k_is); (case xb2 => first | exact rfl | decide +kernel | kernel_rfl); (case xs2 => k_is); (case xx2 => k_is); (case xy2 => k_is)
    (case xk2 => k_is); (case xu2 => ks_is); (case xo2 => k_is); (case xw2 => k_is); (case xt_2 => k_is); (case xm2 => k_is)
    (case xd2 => k_is); (case xg2 => k_is); (case xh2 => k_is); (case xn2 => k_is); (case xa3 => k_is); (case xi3 => k_is)
    (case xl3 => k_is); (case xc3 => k_is); (case xq3 => k_is); (case xv3 => first | exact rfl | kernel_rfl); (case xf3 => first | exact rfl | decide +kernel | kernel_rfl); (case xe3 => k_is)
    (case xt3 => k_is); (case xp3 => first | exact rfl | decide +kernel | kernel_rfl); (case xC3 => k_is); (case xb3 => first | exact rfl | decide +kernel | kernel_rfl); (case xs3 => k_is); (case xx3 => k_is)
    (case xy3 => k_is); (case xk3 => k_is); (case xu3 => ks_is); (case xo3 => k_is); (case xw3 => k_is); (case xt_3 => k_is)
    (case xm3 => k_is); (case xd3 => k_is); (case xg3 => k_is); (case xh3 => k_is); (case xn3 => k_is); (case xa4 => k_is)
    (case xi4 => k_is); (case xl4 => k_is); (case xc4 => k_is); (case xq4 => k_is); (case xv4 => first | exact rfl | kernel_rfl); (case xf4 => first | exact rfl | decide +kernel | kernel_rfl)
    (case xe4 => k_is); (case xt4 => k_is); (case xp4 => first | exact rfl | decide +kernel | kernel_rfl); (case xC4 => k_is); (case xb4 => first | exact rfl | decide +kernel | kernel_rfl); (case xs4 => k_is)
    (case xx4 => k_is); (case xy4 => k_is); (case xk4 => k_is); (case xu4 => ks_is); (case xo4 => k_is); (case xw4 => k_is)
    (case xt_4 => k_is); (case xm4 => k_is); (case xd4 => k_is); (case xg4 => k_is); (case xh4 => k_is); (case xn4 => k_is)
    (case xa5 => k_is); (case xi5 => k_is); (case xl5 => k_is); (case xc5 => k_is); (case xq5 => k_is); (case xv5 => first | exact rfl | kernel_rfl)
    (case xf5 => first | exact rfl | decide +kernel | kernel_rfl); (case xe5 => k_is); (case xt5 => k_is); (case xp5 => first | exact rfl | decide +kernel | kernel_rfl); (case xC5 => k_is); (case xb5 => first | exact rfl | decide +kernel | kernel_rfl)
    (case xs5 => k_is); (case xx5 => k_is); (case xy5 => k_is); (case xk5 => k_is); (case xu5 => ks_is); (case xo5 => k_is)
    (case xw5 => k_is); (case xt_5 => k_is); (case xm5 => k_is); (case xd5 => k_is); (case xg5 => k_is); (case xh5 => k_is)
    (case xn5 => k_is); (case hn => k_is); (case tk => k_is); (case a0 => k_is); (case l0 => k_is); (case c0 => k_is)
    (case k0 => k_is); (case a1 => k_is); (case l1 => k_is); (case c1 => k_is); (case k1 => k_is); (case a2 => k_is)
    (case l2 => k_is); (case c2 => k_is); (case k2 => k_is); (case a3 => k_is); (case l3 => k_is); (case c3 => k_is)
    (case k3 => k_is); (case a4 => k_is); (case i4 => k_is); (case l4 => k_is); (case c4 => k_is); (case k4 => k_is)
    (case a5 => k_is); (case l5 => k_is); (case c5 => k_is); (case k5 => k_is); (case a6 => k_is); (case i6 => k_is)
    (case l6 => k_is); (case c6 => k_is); (case k6 => k_is); (case a7 => k_is); (case l7 => k_is); (case c7 => k_is)
    (case k7 => k_is); (case a8 => k_is); (case l8 => k_is); (case c8 => k_is); (case k8 => k_is); (case a9 => k_is)
    (case l9 => k_is); (case c9 => k_is); (case k9 => k_is); (case a10 => k_is); (case l10 => k_is); (case c10 => k_is)
    (case k10 => k_is); (case a11 => k_is); (case l11 => k_is); (case c11 => k_is); (case k11 => k_is); (case a12 => k_is)
    (case l12 => k_is); (case c12 => k_is); (case k12 => k_is); (case a13 => k_is); (case l13 => k_is); (case c13 => k_is)
    (case k13 => k_is); (case a14 => k_is); (case l14 => k_is); (case c14 => k_is); (case k14 => k_is); (case a15 => k_is)
    (case l15 => k_is); (case c15 => k_is); (case k15 => k_is); (case a16 => k_is); (case l16 => k_is); (case c16 => k_is)
    (case k16 => k_is); (case a17 => k_is); (case l17 => k_is); (case c17 => k_is); (case k17 => k_is); (case a18 => k_is)
    (case l18 => k_is); (case c18 => k_is); (case k18 => k_is); (case a19 => k_is); (case l19 => k_is); (case c19 => k_is)
    (case k19 => k_is); (case a20 => k_is); (case l20 => k_is); (case c20 => k_is); (case k20 => k_is); (case a21 => k_is)
    (case l21 => k_is); (case c21 => k_is); (case k21 => k_is); (case a22 => k_is); (case l22 => k_is); (case c22 => k_is)
    (case k22 => k_is); (case a23 => k_is); (case l23 => k_is); (case c23 => k_is); (case k23 => k_is); (case a24 => k_is)
    (case l24 => k_is); (case c24 => k_is); (case k24 => k_is); (case a25 => k_is); (case l25 => k_is); (case c25 => k_is)
    (case k25 => k_is); (case a26 => k_is); (case l26 => k_is); (case c26 => k_is); (case k26 => k_is); (case a27 => k_is)
    (case l27 => k_is); (case c27 => k_is); (case k27 => k_is); (case a28 => k_is); (case l28 => k_is); (case c28 => k_is)
    (case k28 => k_is); (case a29 => k_is); (case l29 => k_is); (case c29 => k_is); (case k29 => k_is); (case a30 => k_is)
    (case l30 => k_is); (case c30 => k_is); (case k30 => k_is); (case a31 => k_is); (case l31 => k_is); (case c31 => k_is)
    (case k31 => k_is); (case a32 => k_is); (case l32 => k_is); (case c32 => k_is); (case k32 => k_is); (case a33 => k_is)
    (case l33 => k_is); (case c33 => k_is); (case k33 => k_is); (case a34 => k_is); (case l34 => k_is); (case c34 => k_is)
    (case k34 => k_is); (case a35 => k_is); (case l35 => k_is); (case c35 => k_is); (case k35 => k_is); (case a36 => k_is)
    (case l36 => k_is); (case c36 => k_is); (case k36 => k_is); (case a37 => k_is); (case l37 => k_is); (case c37 => k_is)
    (case k37 => k_is); (case a38 => k_is); (case l38 => k_is); (case c38 => k_is); (case k38 => k_is); (case a39 => k_is)
    (case l39 => k_is); (case c39 => k_is); (case k39 => k_is); (case a40 => k_is); (case l40 => k_is); (case c40 => k_is)
    (case k40 => k_is); (case a41 => k_is); (case l41 => k_is); (case c41 => k_is); (case k41 => k_is); (case a42 => k_is)
    (case l42 => k_is); (case c42 => k_is); (case k42 => k_is); (case a43 => k_is); (case l43 => k_is); (case c43 => k_is)
    (case k43 => k_is); (case a44 => k_is); (case l44 => k_is); (case c44 => k_is); (case k44 => k_is); (case a45 => k_is)
    (case l45 => k_is); (case c45 => k_is); (case k45 => k_is); (case a46 => k_is); (case l46 => k_is); (case c46 => k_is)
    (case k46 => k_is); (case a47 => k_is); (case l47 => k_is); (case c47 => k_is); (case k47 => k_is); (case a48 => k_is)
    (case l48 => k_is); (case c48 => k_is); (case k48 => k_is); (case a49 => k_is); (case l49 => k_is); (case c49 => k_is)
    (case k49 => k_is); (case a50 => k_is); (case l50 => k_is); (case c50 => k_is); (case k50 => k_is); (case a51 => k_is)
    (case l51 => k_is); (case c51 => k_is); (case k51 => k_is); (case a52 => k_is); (case l52 => k_is); (case c52 => k_is)
    (case k52 => k_is); (case a53 => k_is); (case l53 => k_is); (case c53 => k_is); (case k53 => k_is); (case a54 => k_is)
    (case l54 => k_is); (case c54 => k_is); (case k54 => k_is); (case a55 => k_is); (case l55 => k_is); (case c55 => k_is)
    (case k55 => k_is); (case a56 => k_is); (case l56 => k_is); (case c56 => k_is); (case k56 => k_is); (case a57 => k_is)
    (case l57 => k_is); (case c57 => k_is); (case k57 => k_is); (case a58 => k_is); (case l58 => k_is); (case c58 => k_is)
    (case k58 => k_is); (case a59 => k_is); (case l59 => k_is); (case c59 => k_is); (case k59 => k_is); (case a60 => k_is)
    (case l60 => k_is); (case c60 => k_is); (case k60 => k_is); (case a61 => k_is); (case l61 => k_is); (case c61 => k_is)
    (case k61 => k_is); (case a62 => k_is); (case l62 => k_is); (case c62 => k_is); (case k62 => k_is); (case z_abs => k_is)
    (case z_bool => k_is); (case z_enumerate => k_is); (case z_int => k_is); (case z_isinstance => k_is); (case z_len => k_is); (case z_list => k_is)
    (case z_max => k_is); (case z_range => k_is); (case z_repr => k_is); (case z_set => k_is); (case z_sorted => k_is); (case z_str => k_is)
    (case z_super => k_is); (case z_tuple => k_is); (case z_zip => k_is); (case v_LETTERS => k_is); (case xha0 => k_is); (case xhm0 => k_is)
    (case xha1 => k_is); (case xhm1 => k_is); (case xha2 => k_is); (case xhm2 => k_is); (case xha3 => k_is); (case xhm3 => k_is)
    (case xha4 => k_is); (case xhm4 => k_is); (case xha5 => k_is); (case xhm5 => k_is); (case xB_AgedReadsError => k_is); (case cb_AgedReadsError => k_is)
    (case cd_AgedReadsError => k_is); (case cy_AgedReadsError => k_is); (case cs_AgedReadsError_0 => k_is); (case cs_AgedReadsError_1 => k_is); (case cs_AgedReadsError_2 => k_is); (case cs_AgedReadsError_3 => k_is)
    (case cs_AgedReadsError_4 => k_is); (case cs_AgedReadsError_5 => k_is); (case ki_InvalidNet_0 => kit_is); (case ki_InvalidNet_1 => kit_is); (case ki_InvalidNet_2 => kit_is); (case ki_InvalidNet_3 => kit_is)
    (case ki_InvalidNet_4 => kit_is); (case ki_InvalidNet_5 => kit_is); (case ki_InvalidPhases_0 => kit_is); (case ki_InvalidPhases_1 => kit_is); (case ki_InvalidPhases_2 => kit_is); (case ki_InvalidPhases_3 => kit_is)
    (case ki_InvalidPhases_4 => kit_is); (case ki_InvalidPhases_5 => kit_is); (case ki_InvalidName_0 => kit_is); (case ki_InvalidName_1 => kit_is); (case ki_InvalidName_2 => kit_is); (case ki_InvalidName_3 => kit_is)
    (case ki_InvalidName_4 => kit_is); (case ki_InvalidName_5 => kit_is); (case ki_InvalidPath_0 => kit_is); (case ki_InvalidPath_1 => kit_is); (case ki_InvalidPath_2 => kit_is); (case ki_InvalidPath_3 => kit_is)
    (case ki_InvalidPath_4 => kit_is); (case ki_InvalidPath_5 => kit_is); (case ki_InvalidNumber_0 => kit_is); (case ki_InvalidNumber_1 => kit_is); (case ki_InvalidNumber_2 => kit_is); (case ki_InvalidNumber_3 => kit_is)
    (case ki_InvalidNumber_4 => kit_is); (case ki_InvalidNumber_5 => kit_is)
#print axioms PySem.Challenge.cw_agedreads_k13_runs_refused_holds

