import PyProof.Rows.All
import Wide.All
import OpenK.AllK
import Wide.FinOn
import HandS.ForMost
import HandS.OwnEq
import HandS.Zip
import HandS.Conv
import HandS.Wide
import HandS.Lambda
import HandS.Words
import KE.KDictKeyed
import KE.KDictLaw
import HandS.TupAny
import HandS.IsInst
import HandS.SortInts
import HandS.RaiseMore
import HandS.Text
import HandS.Style
import KE.GoesNew
import HandS.Nested
import KE.KDictWalk
import HandS.DictComp
import KE.GoesZip
import KE.GoesMore
import HandS.Property
import KE.KOpsOwn
import PyProof.InstNe
import HandS.EndTab
import PyProof.Rows.SortStr
import HandS.SetFor
import HandS.Flt
import HandS.IterVal
import HandS.OwnIter
import HandS.Deep
import HandS.NoneIn
import KE.KDictCopyH
import PyProof.Conv_bool
import KE.KExcSuper
import HandS.ExcInit
import HandS.ExcField
import HandS.MakeKwOnly
import KE.KExcIs
import HandS.ExcIs
import HandS.Dict
import PyProof.StrOps2
import KE.RegKIsAll
import PySem.Challenge.RW_agedreads_k01_errors_made
import PyProof.FitsInt
set_option Elab.async false
set_option linter.all false
set_option maxRecDepth 100000
set_option maxHeartbeats 4000000
namespace VS
abbrev St := L2.St
open PySem PySem.Spec PyProof.Rows L2

/-! deep data -/
inductive D where
  | non | bl (b : Bool) | int (i : Int) | str (x : Str) | adr (a : Addr)
  | lst (xs : List D) | tup (xs : List D) | ins (c : Nat) (fs : List D) | scr (xs : List D) | dct (b : Bool) (ks : List NestedKey) (vs : List D) | exc (c : Nat) (d : D)

/-- the written part, the classes' addresses and their fields -/
structure Gx where
  K : PySem.W.Frag
  cls : Nat → Addr
  fld : Nat → List Str
  /-- the tables of the defs that make lambdas, and the lambdas' names -/
  T : List (Addr × Str)
  w : World
  P : Program
  mg : Str → Option Value
  base : Heap
  kl : Nat

/-! dicts: the keys' tuples stay -/
mutual
inductive KV1 (F : Hp) : V → NestedKey → Prop
  | non : KV1 F .non .none
  | int (i : Int) : KV1 F (.int i) (.num i)
  | str (x : Str) : KV1 F (.str x) (.text x)
  | tup {a : Addr} {vs : List V} {ks : List NestedKey} : F a = some (.tup vs) → KV1s F vs ks → KV1 F (.ref a) (.tup ks)
inductive KV1s (F : Hp) : List V → List NestedKey → Prop
  | nil : KV1s F [] []
  | cons {v : V} {vs : List V} {k : NestedKey} {ks : List NestedKey} : KV1 F v k → KV1s F vs ks → KV1s F (v :: vs) (k :: ks)
end
mutual
theorem KV1.ext {F F' : Hp} (e : Ext F F') : ∀ {v : V} {k : NestedKey}, KV1 F v k → KV1 F' v k
  | _, _, .non => .non
  | _, _, .int i => .int i
  | _, _, .str x => .str x
  | _, _, .tup h r => .tup (e _ _ h) (KV1s.ext e r)
theorem KV1s.ext {F F' : Hp} (e : Ext F F') : ∀ {vs : List V} {ks : List NestedKey}, KV1s F vs ks → KV1s F' vs ks
  | _, _, .nil => .nil
  | _, _, .cons h r => .cons (KV1.ext e h) (KV1s.ext e r)
end
abbrev DEnt := NestedKey × Addr × Value
/-- a dict by its very entries -/
def rawO (w : World) (p : Addr) (xs : List DEnt) : HO := .ext fun h => ∃ (o : Obj) (es : Array DictEntry) (ep : Nat), h.get? p = some o ∧ o.ExactDict ∧ o.data = .dict es ep ∧ es.toList = xs.map fun x => ({ hash := x.1.hash w, key := .ref x.2.1, val := x.2.2 } : DictEntry)
/-- as it is, or locked as the object l -/
def lkO : Option Obj → HO → HO
  | none, u => u
  | some od, u => .frz od u
/-- a dict whose keys are tuples, of tuples too -/
structure DicN (w : World) (l : Option Obj) (F H : Hp) (p : Addr) (xs : List DEnt) (ks : List NestedKey) (vs : List V) : Prop where
  at_ : H p = some (lkO l (rawO w p xs))
  sys : (p == sysModules) = false
  kse : ks = xs.map (·.1)
  nd : ks.Nodup
  vse : Vals vs (xs.map (·.2.2))
  ky : ∀ x ∈ xs, KV1 F (.ref x.2.1) x.1 ∧ x.1.depth ≤ 8
  ln : xs.length ≤ 1000000
def nkOf : Key → NestedKey
  | .inl i => .num i
  | .inr x => .text x
/-- a dict: keys ints and texts, or tuples -/
def DicAt (w : World) (b : Bool) (l : Option Obj) (F H : Hp) (p : Addr) (ks : List NestedKey) (vs : List V) : Prop := match b with
  | true => ∃ xs, DicN w l F H p xs ks vs
  | false => ∃ kvs : List (Key × V), H p = some (lkO l (.dK kvs)) ∧ ks = kvs.map (fun x => nkOf x.1) ∧ vs = kvs.map (·.2) ∧ kvs.length ≤ 1000000
theorem DicN.ext {w : World} {l : Option Obj} {F F' H H' : Hp} {p : Addr} {xs : List DEnt} {ks : List NestedKey} {vs : List V} (e : Ext F F') (h : H p = some (lkO l (rawO w p xs)) → H' p = some (lkO l (rawO w p xs))) (d : DicN w l F H p xs ks vs) : DicN w l F' H' p xs ks vs :=
  ⟨h d.at_, d.sys, d.kse, d.nd, d.vse, fun x hx => ⟨(d.ky x hx).1.ext e, (d.ky x hx).2⟩, d.ln⟩
theorem DicAt.ext {w : World} {b : Bool} {l : Option Obj} {F F' H H' : Hp} {p : Addr} {ks : List NestedKey} {vs : List V} (e : Ext F F') (h : ∀ o, H p = some o → H' p = some o) (d : DicAt w b l F H p ks vs) : DicAt w b l F' H' p ks vs := by
  cases b with
  | true => obtain ⟨xs, d⟩ := d; exact ⟨xs, d.ext e (h _)⟩
  | false => obtain ⟨kvs, d, r⟩ := d; exact ⟨kvs, h _ d, r⟩
theorem lk_nt {l : Option Obj} {u : HO} (n : ∀ ps, u ≠ .tbl ps) : ∀ ps, lkO l u ≠ .tbl ps := fun ps z => by
  cases l with
  | none => exact n ps z
  | some od => cases z
theorem raw_nt {w : World} {p : Addr} {xs : List DEnt} : ∀ ps, rawO w p xs ≠ .tbl ps := fun ps z => by unfold rawO at z; cases z
theorem dK_nt {kvs : List (Key × V)} : ∀ ps, HO.dK kvs ≠ .tbl ps := fun ps z => by cases z
theorem DicAt.obT {w : World} {b : Bool} {l : Option Obj} {F H : Hp} {p : Addr} {ks : List NestedKey} {vs : List V} (d : DicAt w b l F H p ks vs) : ∃ o, H p = some o ∧ ∀ ps, o ≠ .tbl ps := by
  cases b with
  | true => obtain ⟨xs, d⟩ := d; exact ⟨_, d.at_, lk_nt raw_nt⟩
  | false => obtain ⟨kvs, d, r⟩ := d; exact ⟨_, d, lk_nt dK_nt⟩
theorem DicAt.ob {w : World} {b : Bool} {l : Option Obj} {F H : Hp} {p : Addr} {ks : List NestedKey} {vs : List V} (d : DicAt w b l F H p ks vs) : ∃ o, H p = some o := by
  cases b with
  | true => obtain ⟨xs, d⟩ := d; exact ⟨_, d.at_⟩
  | false => obtain ⟨kvs, d, r⟩ := d; exact ⟨_, d⟩

/-- at a: an own exception of the class at C, its dict at dx -/
def exq (a C dx : Addr) : HO := .ext fun h => ∃ ox : Obj, h.get? a = some ox ∧ ox.cls = .ref C ∧ ox.dict = some dx ∧ ∃ fv, ox.data = .fields fv
mutual
inductive Rep (G : Gx) (F : Hp) : V → D → Prop
  | non : Rep G F .non .non
  | bl (b : Bool) : Rep G F (.bl b) (.bl b)
  | int (i : Int) : Rep G F (.int i) (.int i)
  | str (x : Str) : Rep G F (.str x) (.str x)
  | adr (a : Addr) : Rep G F (.ref a) (.adr a)
  | lst {a : Addr} {vs : List V} {ds : List D} : F a = some (.lst vs) → Reps G F vs ds → Rep G F (.ref a) (.lst ds)
  | scr {a : Addr} {vs : List V} {ds : List D} : SqL G.K F a vs → Reps G F vs ds → Rep G F (.ref a) (.scr ds)
  | tup {a : Addr} {vs : List V} {ds : List D} : F a = some (.tup vs) → Reps G F vs ds → Rep G F (.ref a) (.tup ds)
  | ins {a dx : Addr} {c : Nat} {fs : List (Str × V)} {ds : List D} : F a = some (.ins (G.cls c) dx fs) → fs.map (·.1) = G.fld c → Reps G F (fs.map (·.2)) ds → Rep G F (.ref a) (.ins c ds)
  | dct {a : Addr} {b : Bool} {od : Obj} {ks : List NestedKey} {vs : List V} {ds : List D} : DicAt G.w b (some od) F F a ks vs → Reps G F vs ds → Rep G F (.ref a) (.dct b ks ds)
  | exc {a dx : Addr} {c : Nat} {v : V} {d : D} : F a = some (exq a (G.cls c) dx) → F dx = some (.xd [("value", v)]) → Rep G F v d → Rep G F (.ref a) (.exc c d)
inductive Reps (G : Gx) (F : Hp) : List V → List D → Prop
  | nil : Reps G F [] []
  | cons {v : V} {vs : List V} {d : D} {ds : List D} : Rep G F v d → Reps G F vs ds → Reps G F (v :: vs) (d :: ds)
end

mutual
theorem Rep.ext {G : Gx} {F F' : Hp} (e : Ext F F') : ∀ {v : V} {d : D}, Rep G F v d → Rep G F' v d
  | _, _, .non => .non
  | _, _, .bl b => .bl b
  | _, _, .int i => .int i
  | _, _, .str x => .str x
  | _, _, .adr a => .adr a
  | _, _, .lst h r => .lst (e _ _ h) (Reps.ext e r)
  | _, _, .scr h r => .scr (h.ext e) (Reps.ext e r)
  | _, _, .tup h r => .tup (e _ _ h) (Reps.ext e r)
  | _, _, .ins h n r => .ins (e _ _ h) n (Reps.ext e r)
  | _, _, .dct h r => .dct (h.ext e (e _)) (Reps.ext e r)
  | _, _, .exc h h2 r => .exc (e _ _ h) (e _ _ h2) (Rep.ext e r)
theorem Reps.ext {G : Gx} {F F' : Hp} (e : Ext F F') : ∀ {vs : List V} {ds : List D}, Reps G F vs ds → Reps G F' vs ds
  | _, _, .nil => .nil
  | _, _, .cons h r => .cons (Rep.ext e h) (Reps.ext e r)
end

section
variable {G : Gx} {F : Hp}
theorem Reps.length : ∀ {vs : List V} {ds : List D}, Reps G F vs ds → vs.length = ds.length
  | _, _, .nil => rfl
  | _, _, .cons _ r => by simp [Reps.length r]
theorem Reps.get : ∀ {vs : List V} {ds : List D} {i : Nat} {d : D}, Reps G F vs ds → ds[i]? = some d → ∃ v, vs[i]? = some v ∧ Rep G F v d
  | _, _, _, _, .nil, h => by simp at h
  | _, _, 0, _, .cons h _, e => by simp at e; subst e; exact ⟨_, rfl, h⟩
  | _, _, i + 1, d, .cons _ r, e => by
    obtain ⟨v, h1, h2⟩ := Reps.get (i := i) (d := d) r (by simpa using e)
    exact ⟨v, by simpa using h1, h2⟩
theorem Reps.append : ∀ {vs ws : List V} {ds es : List D}, Reps G F vs ds → Reps G F ws es → Reps G F (vs ++ ws) (ds ++ es)
  | _, _, _, _, .nil, s => s
  | _, _, _, _, .cons h r, s => .cons h (Reps.append r s)
theorem Reps.set {v : V} {d : D} (h : Rep G F v d) : ∀ {vs : List V} {ds : List D} (i : Nat), Reps G F vs ds → Reps G F (vs.set i v) (ds.set i d)
  | _, _, _, .nil => .nil
  | _, _, 0, .cons _ r => .cons h r
  | _, _, i + 1, .cons q r => .cons q (Reps.set h i r)
theorem Reps.take : ∀ {vs : List V} {ds : List D} (n : Nat), Reps G F vs ds → Reps G F (vs.take n) (ds.take n)
  | _, _, 0, _ => by simpa using Reps.nil
  | _, _, _ + 1, .nil => .nil
  | _, _, n + 1, .cons h r => .cons h (Reps.take n r)
theorem Reps.drop : ∀ {vs : List V} {ds : List D} (n : Nat), Reps G F vs ds → Reps G F (vs.drop n) (ds.drop n)
  | _, _, 0, r => r
  | _, _, _ + 1, .nil => .nil
  | _, _, n + 1, .cons _ r => Reps.drop n r
theorem Reps.one {v : V} {d : D} (h : Rep G F v d) : Reps G F [v] [d] := .cons h .nil
end

/-- the tables stand, and are no data -/
structure TbOk (T : List (Addr × Str)) (F H : Hp) : Prop where
  t : LamX.Tabs T H
  n : ∀ p ∈ T, F p.1 = none
theorem TbOk.ext {T : List (Addr × Str)} {F H F' H' : Hp} (b : TbOk T F H) (h : ∀ p o, H p = some o → H' p = some o) (n : ∀ p o, H p = some o → F p = none → F' p = none) : TbOk T F' H' :=
  ⟨b.t.ext h, fun p hp => let ⟨_, e, _⟩ := b.t p hp; n _ _ e (b.n p hp)⟩
theorem TbOk.seal {T : List (Addr × Str)} {F H : Hp} {p : Addr} {o : HO} (b : TbOk T F H) (hh : H p = some o) (nt : ∀ ps, o ≠ .tbl ps) : TbOk T (upd F p o) H :=
  ⟨b.t, fun q hq => by
    obtain ⟨ps, e, _⟩ := b.t q hq
    have z : q.1 ≠ p := fun z => by rw [z, hh] at e; cases e; exact nt ps rfl
    rw [upd_ne z]
    exact b.n q hq⟩

theorem tabs_mod {T : List (Addr × Str)} {H H' : Hp} (t : LamX.Tabs T H) (e : ∀ b u, H b = some u → ((∃ ps, u = .tbl ps) ∨ ∃ c q, u = LamX.CodeO c q) → H' b = some u) : LamX.Tabs T H' := fun p hp => by
  obtain ⟨ps, h1, h2, h3⟩ := t p hp
  refine ⟨ps, e _ _ h1 (.inl ⟨ps, rfl⟩), h2, fun pos cv hc => ?_⟩
  obtain ⟨c, e1, e2⟩ := h3 pos cv hc
  exact ⟨c, e1, e _ _ e2 (.inr ⟨_, _, rfl⟩)⟩
theorem tabs_upd {T : List (Addr × Str)} {H : Hp} {p : Addr} {o u : HO} (t : LamX.Tabs T H) (hp : H p = some o) (n1 : ∀ ps, o ≠ .tbl ps) (n2 : ∀ c q, o ≠ LamX.CodeO c q) : LamX.Tabs T (upd H p u) := tabs_mod t fun b v e k => by
  by_cases z : b = p
  · subst z
    rw [hp] at e
    cases e
    rcases k with ⟨ps, k⟩ | ⟨c, q, k⟩
    · exact absurd k (n1 ps)
    · exact absurd k (n2 c q)
  · rw [upd_ne z]; exact e
theorem nc_lst {xs : List V} : ∀ c q, HO.lst xs ≠ LamX.CodeO c q := fun c q z => by unfold LamX.CodeO at z; cases z
theorem nc_ins {a b : Addr} {fs : List (Str × V)} : ∀ c q, HO.ins a b fs ≠ LamX.CodeO c q := fun c q z => by unfold LamX.CodeO at z; cases z
theorem nc_dK {kvs : List (Key × V)} : ∀ c q, HO.dK kvs ≠ LamX.CodeO c q := fun c q z => by unfold LamX.CodeO at z; cases z
/-- all that was there stays, but what is borrowed -/
structure Keep (T : List (Addr × Str)) (B : List Addr) (F H F' H' : Hp) : Prop where
  f : Ext F F'
  fh : Ext F' H'
  h : ∀ p o, H p = some o → p ∉ B → (∀ ps, o ≠ .tbl ps) → H' p = some o
  a : ∀ p o, H p = some o → ∃ o', H' p = some o'
  n : ∀ p o, H p = some o → F p = none → F' p = none
  t : TbOk T F H → TbOk T F' H'
/-- objects by which a lambda is known: its cells and itself as they are, its code -/
def LamL (o : HO) : Prop := (∃ ob, o = .frz ob (.own 0)) ∨ ∃ c q, o = LamX.CodeO c q
theorem LamL.nt {o : HO} (l : LamL o) : ∀ ps, o ≠ .tbl ps := fun ps z => by
  subst z
  rcases l with ⟨ob, l⟩ | ⟨c, q, l⟩
  · cases l
  · unfold LamX.CodeO at l; cases l
theorem nl_lst {xs : List V} : ¬ LamL (.lst xs) := fun l => by
  rcases l with ⟨ob, l⟩ | ⟨c, q, l⟩
  · cases l
  · unfold LamX.CodeO at l; cases l
theorem nl_ins {a b : Addr} {fs : List (Str × V)} : ¬ LamL (.ins a b fs) := fun l => by
  rcases l with ⟨ob, l⟩ | ⟨c, q, l⟩
  · cases l
  · unfold LamX.CodeO at l; cases l
theorem nl_dK {kvs : List (Key × V)} : ¬ LamL (.dK kvs) := fun l => by
  rcases l with ⟨ob, l⟩ | ⟨c, q, l⟩
  · cases l
  · unfold LamX.CodeO at l; cases l
/-- a dict is no code -/
theorem nc_raw {w : World} {p : Addr} {xs : List DEnt} (c : Addr) (q : Str) : rawO w p xs ≠ LamX.CodeO c q := fun z => by
  unfold rawO LamX.CodeO at z
  have e := HO.ext.inj z
  let es : Array DictEntry := (xs.map fun x => ({ hash := x.1.hash w, key := .ref x.2.1, val := x.2.2 } : DictEntry)).toArray
  let o : Obj := { cls := .type "dict", data := .dict es }
  let h : Heap := { objs := Array.replicate (p + 1) o }
  have at_ : ∀ a, h.get? a = if a < p + 1 then some o else none := fun a => by
    have g : h.objs[a]? = if a < p + 1 then some o else none := Array.getElem?_replicate
    unfold Heap.get?
    rw [g]
    by_cases z : a < p + 1
    · rw [if_pos z]
    · rw [if_neg z]
  have get : ∀ a ob, h.get? a = some ob → ob = o := fun a ob g => by
    rw [at_] at g
    split at g
    · exact (Option.some.inj g).symm
    · cases g
  have φ : (fun h : Heap => ∃ (o : Obj) (es : Array DictEntry) (ep : Nat), h.get? p = some o ∧ o.ExactDict ∧ o.data = .dict es ep ∧ es.toList = xs.map fun x => ({ hash := x.1.hash w, key := .ref x.2.1, val := x.2.2 } : DictEntry)) h := by
    refine ⟨o, es, _, ?_, ?_, rfl, ?_⟩
    · rw [at_, if_pos (Nat.lt_succ_self p)]
    · exact ⟨rfl, rfl, rfl⟩
    · simp [es]
  rw [e] at φ
  obtain ⟨oc, vs, t, h1, h2, h3⟩ := φ
  rw [get _ _ h1] at h2
  cases h2
theorem nl_raw {w : World} {p : Addr} {xs : List DEnt} : ¬ LamL (rawO w p xs) := fun l => by
  rcases l with ⟨ob, l⟩ | ⟨c, q, l⟩
  · unfold rawO at l; cases l
  · exact nc_raw c q l
theorem nl_lk {l : Option Obj} {u : HO} (n : ¬ LamL u) (no : u ≠ .own 0) : ¬ LamL (lkO l u) := fun z => by
  cases l with
  | none => exact n z
  | some od =>
    rcases z with ⟨ob, z⟩ | ⟨c, q, z⟩
    · cases z; exact no rfl
    · unfold lkO LamX.CodeO at z; cases z
theorem raw_no {w : World} {p : Addr} {xs : List DEnt} : rawO w p xs ≠ .own 0 := fun z => by unfold rawO at z; cases z
theorem dK_no {kvs : List (Key × V)} : HO.dK kvs ≠ .own 0 := fun z => by cases z
theorem DicAt.nl {w : World} {b : Bool} {l : Option Obj} {F H : Hp} {p : Addr} {ks : List NestedKey} {vs : List V} {o : HO} (d : DicAt w b l F H p ks vs) (h : H p = Option.some o) : ¬ LamL o := by
  cases b with
  | true => obtain ⟨xs, d⟩ := d; have e := d.at_; rw [h] at e; cases e; exact nl_lk nl_raw raw_no
  | false => obtain ⟨kvs, d, r⟩ := d; rw [h] at d; cases d; exact nl_lk nl_dK dK_no
/-- what a lambda of two parameters at f answers while what it is known by stands -/
def LamC (G : Gx) (L : List (Addr × HO)) (F : Hp) (f : Addr) (h : D → D → Option D) : Prop := ∀ (A : Around) (outer : List Env) (s : Shared) (H F' : Hp) (ua ub : Value) (va vb : V) (a b d : D),
  Env0 G.P G.w G.K G.mg G.base A outer s H → Room G.kl A → (∀ x ∈ L, H x.1 = some x.2 ∧ ((∃ ob, x.2 = .frz ob (.own 0)) → F' x.1 = none)) → Ext F F' → Ext F' H → TbOk G.T F' H → Rep G F' va a → Rep G F' vb b → RelV va ua → RelV vb ub → h a b = some d →
  codeAny (model G.P G.w) A (.call (.ref f) ⟨[ua, ub], []⟩) (CR CX0 outer G.P G.w H s (fun v H' => ∃ F'', Keep G.T [] F' H F'' H' ∧ Rep G F'' v d) E0) s
def LamAt (G : Gx) (F H : Hp) (f : Addr) (h : D → D → Option D) : Prop := ∃ L : List (Addr × HO), (∀ x ∈ L, H x.1 = some x.2 ∧ ((∃ ob, x.2 = .frz ob (.own 0)) → F x.1 = none) ∧ LamL x.2) ∧ (∃ (oc : Value) (od : Option Addr) (fd : FuncData) (sl : Array (Option Value)), (f, HO.frz ⟨oc, od, .func fd, sl⟩ (.own 0)) ∈ L) ∧ LamC G L F f h
theorem LamAt.move {G : Gx} {F F' H H' : Hp} {f : Addr} {h : D → D → Option D} (l : LamAt G F H f h) (e : Ext F F') (hk : ∀ p o, H p = some o → LamL o → H' p = some o ∧ (F p = none → F' p = none)) : LamAt G F' H' f h := by
  obtain ⟨L, h1, hf, h2⟩ := l
  refine ⟨L, fun x hx => ?_, hf, fun A o s H F2 ua ub va vb a b d k1 k2 k3 k4 => h2 A o s H F2 ua ub va vb a b d k1 k2 k3 (e.trans k4)⟩
  obtain ⟨a1, a2, a3⟩ := h1 x hx
  obtain ⟨b1, b2⟩ := hk _ _ a1 a3
  exact ⟨b1, fun z => b2 (a2 z), a3⟩
/-! slots: a value, a list of one's own, a borrowed list, self in an __init__ -/
inductive Sl where
  | no | val (d : D) | own (xs : List D) | bor (xs : List D) | slf (c : Nat) (fs : List D) | dic (b : Bool) (ks : List NestedKey) (vs : List D) | lam (h : D → D → Option D)
abbrev Rho := List Sl
def Sl.mut : Sl → Bool
  | .own _ => true
  | .bor _ => true
  | .slf _ _ => true
  | .dic _ _ _ => true
  | _ => false

/-- a def's entry -/
structure Ctx where
  G : Gx
  F0 : Hp
  H0 : Hp
  B : List Addr

def SlOk (c : Ctx) (F H : Hp) : Option V → Sl → Prop
  | _, .no => True
  | some v, .val d => Rep c.G F v d
  | some v, .own xs => ∃ p, v = V.ref p ∧ c.H0 p = none ∧ F p = none ∧ ∃ vs, H p = some (.lst vs) ∧ Reps c.G F vs xs
  | some v, .bor xs => ∃ p, v = V.ref p ∧ p ∈ c.B ∧ F p = none ∧ ∃ vs, H p = some (.lst vs) ∧ Reps c.G F vs xs
  | some v, .slf k ds => ∃ p, v = V.ref p ∧ p ∈ c.B ∧ F p = none ∧ ∃ dx fs, H p = some (.ins (c.G.cls k) dx fs) ∧ (∃ n, fs.map (·.1) = (c.G.fld k).take n) ∧ Reps c.G F (fs.map (·.2)) ds
  | some v, .dic b ks ds => ∃ p, v = V.ref p ∧ c.H0 p = none ∧ F p = none ∧ ∃ vs, DicAt c.G.w b none F H p ks vs ∧ Reps c.G F vs ds
  | some v, .lam h => ∃ f, v = V.ref f ∧ LamAt c.G F H f h
  | none, _ => False

structure Ok (c : Ctx) (F H : Hp) (σ : VS.St) (ρ : Rho) : Prop where
  len : σ.length = ρ.length
  f0 : Ext c.F0 F
  fh : Ext F H
  fr : ∀ p o, c.H0 p = some o → p ∉ c.B → (∀ ps, o ≠ .tbl ps) → H p = some o
  al : ∀ p o, c.H0 p = some o → ∃ o', H p = some o'
  n0 : ∀ p o, c.H0 p = some o → c.F0 p = none → F p = none
  sl : ∀ (i : Nat) s, ρ[i]? = some s → ∃ ov, σ[i]? = some ov ∧ SlOk c F H ov s
  ap : ∀ (i j : Nat) s t p q, ρ[i]? = some s → ρ[j]? = some t → s.mut = true → t.mut = true → σ[i]? = some (some (V.ref p)) → σ[j]? = some (some (V.ref q)) → p = q → i = j
  hb : ∀ p ∈ c.B, ∃ o, c.H0 p = some o
  tb : TbOk c.G.T F H

/-- only new objects, all of them data -/
structure Grow (F H F' H' : Hp) : Prop where
  f : Ext F F'
  fh : Ext F' H'
  h : Ext H H'
  n : ∀ p o, H p = some o → F p = none → F' p = none
theorem Grow.refl {F H : Hp} (e : Ext F H) : Grow F H F H := ⟨Ext.rfl', e, Ext.rfl', fun _ _ _ h => h⟩
theorem Grow.trans {F H F1 H1 F2 H2 : Hp} (a : Grow F H F1 H1) (b : Grow F1 H1 F2 H2) : Grow F H F2 H2 :=
  ⟨a.f.trans b.f, b.fh, a.h.trans b.h, fun p o h n => b.n p o (a.h _ _ h) (a.n p o h n)⟩
theorem ext_none {F H : Hp} (e : Ext F H) {p : Addr} (h : H p = none) : F p = none := by
  cases q : F p with
  | none => rfl
  | some o => rw [e p o q] at h; cases h
/-- a new data object at p -/
theorem Grow.new {F H : Hp} (e : Ext F H) {p : Addr} {o : HO} (h : H p = none) : Grow F H (upd F p o) (upd H p o) where
  f := Ext.upd (ext_none e h)
  fh := fun a u q => by
    by_cases z : a = p
    · subst z; rw [upd_same] at q ⊢; exact q
    · rw [upd_ne z] at q ⊢; exact e _ _ q
  h := Ext.upd h
  n := fun a u q n => by
    have z : a ≠ p := fun z => by subst z; rw [h] at q; cases q
    rw [upd_ne z]; exact n
/-- a new object at p that is no data (yet) -/
theorem Grow.raw {F H : Hp} (e : Ext F H) {p : Addr} {o : HO} (h : H p = none) : Grow F H F (upd H p o) :=
  ⟨Ext.rfl', e.trans (Ext.upd h), Ext.upd h, fun _ _ _ n => n⟩

section
variable {c : Ctx} {F H F' H' : Hp} {σ : VS.St} {ρ : Rho}
theorem SlOk.grow (g : Grow F H F' H') : ∀ {ov : Option V} {s : Sl}, SlOk c F H ov s → SlOk c F' H' ov s
  | _, .no, _ => by simp [SlOk]
  | some _, .val _, h => Rep.ext g.f h
  | some _, .own _, ⟨p, e, h0, hf, vs, hh, r⟩ => ⟨p, e, h0, g.n _ _ hh hf, vs, g.h _ _ hh, r.ext g.f⟩
  | some _, .bor _, ⟨p, e, h0, hf, vs, hh, r⟩ => ⟨p, e, h0, g.n _ _ hh hf, vs, g.h _ _ hh, r.ext g.f⟩
  | some _, .slf _ _, ⟨p, e, h0, hf, dx, fs, hh, n, r⟩ => ⟨p, e, h0, g.n _ _ hh hf, dx, fs, g.h _ _ hh, n, r.ext g.f⟩
  | none, .val _, h => h
  | none, .own _, h => h
  | none, .bor _, h => h
  | some _, .dic _ _ _, ⟨p, e, h0, hf, vs, hh, r⟩ => ⟨p, e, h0, let ⟨_, q⟩ := hh.ob; g.n _ _ q hf, vs, hh.ext g.f (g.h p), r.ext g.f⟩
  | some _, .lam _, ⟨f1, e, l⟩ => ⟨f1, e, l.move g.f fun q0 u0 e1 _ => ⟨g.h _ _ e1, fun e3 => g.n _ _ e1 e3⟩⟩
  | none, .slf _ _, h => h
  | none, .dic _ _ _, h => h
  | none, .lam _, h => h
theorem Ok.grow (I : Ok c F H σ ρ) (g : Grow F H F' H') : Ok c F' H' σ ρ where
  len := I.len
  f0 := I.f0.trans g.f
  fh := g.fh
  fr := fun p o h1 h2 h3 => g.h _ _ (I.fr p o h1 h2 h3)
  al := fun p o h1 => let ⟨o', e⟩ := I.al p o h1; ⟨o', g.h _ _ e⟩
  n0 := fun p o h1 h2 => let ⟨o', e⟩ := I.al p o h1; g.n p o' e (I.n0 p o h1 h2)
  sl := fun i s e => let ⟨ov, h1, h2⟩ := I.sl i s e; ⟨ov, h1, h2.grow g⟩
  ap := I.ap
  hb := I.hb
  tb := I.tb.ext g.h g.n
end

/-! readings by data -/
abbrev SE := Rho → Option (D × Rho)
abbrev SB := Rho → Option (Bool × Rho)
def vt (c : Ctx) (s : SE) : TE := fun σ H Q => ∃ F ρ, Ok c F H σ ρ ∧ ∃ d ρ', s ρ = some (d, ρ') ∧ ∀ v H' F', Ext F F' → Ok c F' H' σ ρ' → Rep c.G F' v d → Q v H'
def vb (c : Ctx) (s : SB) : TT := fun σ H Q => ∃ F ρ, Ok c F H σ ρ ∧ ∃ b ρ', s ρ = some (b, ρ') ∧ ∀ H' F', Ext F F' → Ok c F' H' σ ρ' → Q b H'
theorem pe_of {X : Cx} {e : Expr} {t t' : TE} (h : PE X e t) (w : ∀ σ H Q, t' σ H Q → t σ H Q) : PE X e t' :=
  ⟨fun pins s σ H Q I q => h.run pins s σ H Q I (w σ H Q q)⟩
theorem pt_of {X : Cx} {e : Expr} {t t' : TT} (h : PT X e t) (w : ∀ σ H Q, t' σ H Q → t σ H Q) : PT X e t' :=
  ⟨fun pins s σ H Q I q => h.run pins s σ H Q I (w σ H Q q)⟩
theorem ps_of {X : Cx} {e : Stmt} {t t' : TS} (h : PS X e t) (w : ∀ σ H Q, t' Q σ H → t Q σ H) : PS X e t' :=
  ⟨fun pins s σ H Q I q => h.run pins s σ H Q I (w σ H Q q)⟩
theorem pss_of {X : Cx} {e : List Stmt} {t t' : TS} (h : PSs X e t) (w : ∀ σ H Q, t' Q σ H → t Q σ H) : PSs X e t' :=
  ⟨fun pins s σ H Q I q => h.run pins s σ H Q I (w σ H Q q)⟩
theorem pa_of {X : Cx} {e : List Expr} {t t' : TA} (h : PA X e t) (w : ∀ σ H Q, t' σ H Q → t σ H Q) : PA X e t' :=
  ⟨fun pos pins s σ H Q I q => h.run pos pins s σ H Q I (w σ H Q q)⟩

/-! names and constants -/
def sV (i : Nat) : SE := fun ρ => match ρ[i]? with
  | some (.val d) => some (d, ρ)
  | some (.own xs) => some (.lst xs, ρ.set i (.val (.lst xs)))
  | some (.dic b ks ds) => some (.dct b ks ds, ρ.set i (.val (.dct b ks ds)))
  | _ => none
def sK (d : D) : SE := fun ρ => some (d, ρ)
section
variable {c : Ctx} {X : Cx}
/-- what is one's own becomes data -/
theorem Ok.freezeX {F H : Hp} {σ : VS.St} {ρ : Rho} (I : Ok c F H σ ρ) {i : Nat} {s0 : Sl} {p : Addr} {o o' : HO} {d : D} (h : ρ[i]? = some s0) (hm0 : s0.mut = true) (h1 : σ[i]? = some (some (V.ref p))) (h0 : c.H0 p = none) (hh : H p = some o) (nt : ∀ ps, o ≠ .tbl ps) (nc : ∀ c q, o ≠ LamX.CodeO c q) (nl : ¬ LamL o) (hf : F p = none) (nt' : ∀ ps, o' ≠ .tbl ps) (nc' : ∀ c q, o' ≠ LamX.CodeO c q) (nl' : ¬ LamL o') (rd : Rep c.G (upd F p o') (V.ref p) d) :
  Ok c (upd F p o') (upd H p o') σ (ρ.set i (.val d)) := by
  have ex : Ext F (upd F p o') := Ext.upd hf
  have up : ∀ q u, q ≠ p → H q = some u → upd H p o' q = some u := fun q u n e => by rw [upd_ne n]; exact e
  refine ⟨by rw [List.length_set]; exact I.len, I.f0.trans ex, ?_, ?_, ?_, ?_, ?_, ?_, I.hb, (TbOk.mk (tabs_upd I.tb.t hh nt nc) I.tb.n).seal upd_same nt'⟩
  · intro a o' q
    by_cases z : a = p
    · subst z; rw [upd_same] at q; cases q; exact upd_same
    · rw [upd_ne z] at q; exact up _ _ z (I.fh _ _ q)
  · intro q u hq hB n
    exact up q u (fun z => by rw [z, h0] at hq; cases hq) (I.fr q u hq hB n)
  · intro q u hq
    obtain ⟨u', e⟩ := I.al q u hq
    exact ⟨u', up q u' (fun z => by rw [z, h0] at hq; cases hq) e⟩
  · intro q o hq hn
    have z : q ≠ p := fun z => by subst z; rw [h0] at hq; cases hq
    rw [upd_ne z]; exact I.n0 q o hq hn
  · intro j s hs
    by_cases hj : i = j
    · subst hj
      have hl : i < ρ.length := (List.getElem?_eq_some_iff.mp h).1
      rw [List.getElem?_set_self hl] at hs
      cases hs
      exact ⟨_, h1, rd⟩
    · rw [List.getElem?_set_ne hj] at hs
      obtain ⟨ov, g1, g2⟩ := I.sl j s hs
      refine ⟨ov, g1, ?_⟩
      have ne : ∀ q, s.mut = true → ov = some (V.ref q) → q ≠ p := fun q hm e z => hj (I.ap i j _ _ _ _ h hs hm0 hm h1 (by rw [g1, e]) z.symm)
      cases s with
      | no => cases ov <;> trivial
      | val d =>
        cases ov with
        | none => exact g2
        | some v => exact Rep.ext ex g2
      | lam g0 =>
        cases ov with
        | none => exact g2
        | some v => exact (let ⟨f1, z1, z2⟩ := g2; ⟨f1, z1, z2.move ex fun q0 u0 e1 e2 => have nz : q0 ≠ p := fun z => by { subst z; rw [hh] at e1; cases e1; exact nl e2 }; ⟨up q0 u0 nz e1, fun e3 => by rw [upd_ne nz]; exact e3⟩⟩)
      | own ys =>
        cases ov with
        | none => exact g2
        | some v =>
          obtain ⟨q, e, a1, a2, ws, a3, a4⟩ := g2
          exact ⟨q, e, a1, by rw [upd_ne (ne q rfl (by rw [e]))]; exact a2, ws, up q _ (ne q rfl (by rw [e])) a3, a4.ext ex⟩
      | bor ys =>
        cases ov with
        | none => exact g2
        | some v =>
          obtain ⟨q, e, a1, a2, ws, a3, a4⟩ := g2
          exact ⟨q, e, a1, by rw [upd_ne (ne q rfl (by rw [e]))]; exact a2, ws, up q _ (ne q rfl (by rw [e])) a3, a4.ext ex⟩
      | slf k ys =>
        cases ov with
        | none => exact g2
        | some v =>
          obtain ⟨q, e, a1, a2, dx, fs, a3, a4, a5⟩ := g2
          exact ⟨q, e, a1, by rw [upd_ne (ne q rfl (by rw [e]))]; exact a2, dx, fs, up q _ (ne q rfl (by rw [e])) a3, a4, a5.ext ex⟩
      | dic bb ks ys =>
        cases ov with
        | none => exact g2
        | some v =>
          obtain ⟨q, e, a1, a2, ws, a3, a4⟩ := g2
          exact ⟨q, e, a1, by rw [upd_ne (ne q rfl (by rw [e]))]; exact a2, ws, a3.ext ex fun u z => up q u (ne q rfl (by rw [e])) z, a4.ext ex⟩
  · intro a b s t p' q' ha hb ms mt
    by_cases ha' : i = a
    · subst ha'
      have hl : i < ρ.length := (List.getElem?_eq_some_iff.mp h).1
      rw [List.getElem?_set_self hl] at ha
      cases ha
      cases ms
    · by_cases hb' : i = b
      · subst hb'
        have hl : i < ρ.length := (List.getElem?_eq_some_iff.mp h).1
        rw [List.getElem?_set_self hl] at hb
        cases hb
        cases mt
      · rw [List.getElem?_set_ne ha'] at ha
        rw [List.getElem?_set_ne hb'] at hb
        exact I.ap a b s t p' q' ha hb ms mt
theorem upd_id {H : Hp} {p : Addr} {o : HO} (h : H p = some o) : upd H p o = H := by
  funext b
  by_cases z : b = p
  · subst z; rw [upd_same, h]
  · rw [upd_ne z]
theorem Ok.freezeAt {F H : Hp} {σ : VS.St} {ρ : Rho} (I : Ok c F H σ ρ) {i : Nat} {s0 : Sl} {p : Addr} {o : HO} {d : D} (h : ρ[i]? = some s0) (hm0 : s0.mut = true) (h1 : σ[i]? = some (some (V.ref p))) (h0 : c.H0 p = none) (hh : H p = some o) (nt : ∀ ps, o ≠ .tbl ps) (nc : ∀ c q, o ≠ LamX.CodeO c q) (nl : ¬ LamL o) (hf : F p = none) (rd : Rep c.G (upd F p o) (V.ref p) d) :
    Ok c (upd F p o) H σ (ρ.set i (.val d)) := by
  have k := I.freezeX h hm0 h1 h0 hh nt nc nl hf nt nc nl rd
  rw [upd_id hh] at k
  exact k
theorem Ok.freeze {F H : Hp} {σ : VS.St} {ρ : Rho} (I : Ok c F H σ ρ) {i : Nat} {xs : List D} (h : ρ[i]? = some (.own xs)) :
    ∃ p vs, σ[i]? = some (some (V.ref p)) ∧ H p = some (.lst vs) ∧ F p = none ∧ Reps c.G F vs xs ∧ Ok c (upd F p (.lst vs)) H σ (ρ.set i (.val (.lst xs))) := by
  obtain ⟨ov, h1, h2⟩ := I.sl i _ h
  cases ov with
  | none => exact h2.elim
  | some v =>
    obtain ⟨p, e, h0, hf, vs, hh, r⟩ := h2
    subst e
    exact ⟨p, vs, h1, hh, hf, r, I.freezeAt h rfl h1 h0 hh (fun _ z => by cases z) nc_lst nl_lst hf (Rep.lst upd_same (r.ext (Ext.upd hf)))⟩
/-- a slot's object changes, and what the slot is -/
theorem Ok.chg {F H : Hp} {σ : VS.St} {ρ : Rho} {i : Nat} {s0 s' : Sl} {p : Addr} {o o' : HO} (I : Ok c F H σ ρ) (h : ρ[i]? = some s0) (hm0 : s0.mut = true) (h1 : σ[i]? = some (some (V.ref p))) (h0 : c.H0 p = none) (hh : H p = some o) (nl : ¬ LamL o) (hf : F p = none)
    (tb : TbOk c.G.T F (upd H p o')) (ok : SlOk c F (upd H p o') (some (V.ref p)) s') : Ok c F (upd H p o') σ (ρ.set i s') := by
  have up : ∀ q u, q ≠ p → H q = some u → upd H p o' q = some u := fun q u n e => by rw [upd_ne n]; exact e
  refine ⟨by rw [List.length_set]; exact I.len, I.f0, ?_, ?_, ?_, I.n0, ?_, ?_, I.hb, tb⟩
  · intro a u q
    exact up a u (fun z => by rw [z, hf] at q; cases q) (I.fh _ _ q)
  · intro q u hq hB n
    exact up q u (fun z => by rw [z, h0] at hq; cases hq) (I.fr q u hq hB n)
  · intro q u hq
    obtain ⟨u', e⟩ := I.al q u hq
    exact ⟨u', up q u' (fun z => by rw [z, h0] at hq; cases hq) e⟩
  · intro j s hs
    by_cases hj : i = j
    · subst hj
      have hl : i < ρ.length := (List.getElem?_eq_some_iff.mp h).1
      rw [List.getElem?_set_self hl] at hs
      cases hs
      exact ⟨_, h1, ok⟩
    · rw [List.getElem?_set_ne hj] at hs
      obtain ⟨ov, g1, g2⟩ := I.sl j s hs
      refine ⟨ov, g1, ?_⟩
      have ne : ∀ q, s.mut = true → ov = some (V.ref q) → q ≠ p := fun q hm e z => hj (I.ap i j _ _ _ _ h hs hm0 hm h1 (by rw [g1, e]) z.symm)
      cases s with
      | no => cases ov <;> trivial
      | val d =>
        cases ov with
        | none => exact g2
        | some v => exact g2
      | lam g0 =>
        cases ov with
        | none => exact g2
        | some v => exact (let ⟨f1, z1, z2⟩ := g2; ⟨f1, z1, z2.move Ext.rfl' fun q0 u0 e1 e2 => ⟨up q0 u0 (fun z => by subst z; rw [hh] at e1; cases e1; exact nl e2) e1, fun e3 => e3⟩⟩)
      | own ys =>
        cases ov with
        | none => exact g2
        | some v =>
          obtain ⟨q, e, a1, a2, ws, a3, a4⟩ := g2
          exact ⟨q, e, a1, a2, ws, up q _ (ne q rfl (by rw [e])) a3, a4⟩
      | bor ys =>
        cases ov with
        | none => exact g2
        | some v =>
          obtain ⟨q, e, a1, a2, ws, a3, a4⟩ := g2
          exact ⟨q, e, a1, a2, ws, up q _ (ne q rfl (by rw [e])) a3, a4⟩
      | slf k ys =>
        cases ov with
        | none => exact g2
        | some v =>
          obtain ⟨q, e, a1, a2, dx, fs, a3, a4, a5⟩ := g2
          exact ⟨q, e, a1, a2, dx, fs, up q _ (ne q rfl (by rw [e])) a3, a4, a5⟩
      | dic bb ks ys =>
        cases ov with
        | none => exact g2
        | some v =>
          obtain ⟨q, e, a1, a2, ws, a3, a4⟩ := g2
          exact ⟨q, e, a1, a2, ws, a3.ext Ext.rfl' fun u z => up q u (ne q rfl (by rw [e])) z, a4⟩
  · intro a b s t p' q' ha hb ms mt
    have back : ∀ {a : Nat} {s : Sl}, (ρ.set i s')[a]? = some s → s.mut = true → ∃ s2, ρ[a]? = some s2 ∧ s2.mut = true := fun {a s} ha ms => by
      by_cases ha' : i = a
      · subst ha'; exact ⟨s0, h, hm0⟩
      · rw [List.getElem?_set_ne ha'] at ha; exact ⟨s, ha, ms⟩
    obtain ⟨s2, a1, a2⟩ := back ha ms
    obtain ⟨t2, b1, b2⟩ := back hb mt
    exact I.ap a b s2 t2 p' q' a1 b1 a2 b2
/-- a dict's object, unlocked -/
def dicU (w : World) (p : Addr) (u : HO) : Prop := (∃ kvs, u = .dK kvs) ∨ ∃ xs, u = rawO w p xs
theorem dicU.mut {w : World} {p : Addr} {u : HO} (d : dicU w p u) : Mut (some u) := by
  rcases d with ⟨kvs, d⟩ | ⟨xs, d⟩ <;> (subst d; exact True.intro)
theorem DicAt.u {w : World} {b : Bool} {F H : Hp} {p : Addr} {ks : List NestedKey} {vs : List V} (d : DicAt w b none F H p ks vs) : ∃ u, H p = some u ∧ dicU w p u ∧
    ∀ od F' H', Ext F F' → H' p = some (.frz od u) → DicAt w b (some od) F' H' p ks vs := by
  cases b with
  | true => obtain ⟨xs, d⟩ := d; exact ⟨_, d.at_, .inr ⟨xs, rfl⟩, fun od F' H' x e => ⟨xs, e, d.sys, d.kse, d.nd, d.vse, fun y hy => ⟨(d.ky y hy).1.ext x, (d.ky y hy).2⟩, d.ln⟩⟩
  | false => obtain ⟨kvs, d, r⟩ := d; exact ⟨_, d, .inl ⟨kvs, rfl⟩, fun od F' H' x e => ⟨kvs, e, r⟩⟩
theorem dicU.nt {w : World} {p : Addr} {u : HO} (d : dicU w p u) : ∀ ps, u ≠ .tbl ps := by
  rcases d with ⟨kvs, d⟩ | ⟨xs, d⟩
  · subst d; exact dK_nt
  · subst d; exact raw_nt
theorem dicU.nc {w : World} {p : Addr} {u : HO} (d : dicU w p u) : ∀ c q, u ≠ LamX.CodeO c q := by
  rcases d with ⟨kvs, d⟩ | ⟨xs, d⟩
  · subst d; exact fun c q z => by unfold LamX.CodeO at z; cases z
  · subst d; exact nc_raw
theorem dicU.nl {w : World} {p : Addr} {u : HO} (d : dicU w p u) (l : Option Obj) : ¬ LamL (lkO l u) := by
  rcases d with ⟨kvs, d⟩ | ⟨xs, d⟩
  · subst d; exact nl_lk nl_dK dK_no
  · subst d; exact nl_lk nl_raw raw_no
/-- a dict of one's own becomes data: it is locked from now on -/
theorem Ok.freezeD {F H : Hp} {σ : VS.St} {ρ : Rho} (I : Ok c F H σ ρ) {i : Nat} {b : Bool} {ks : List NestedKey} {ds : List D} (h : ρ[i]? = some (.dic b ks ds)) :
    ∃ p u, σ[i]? = some (some (V.ref p)) ∧ H p = some u ∧ Mut (some u) ∧ ∀ od, ∃ F', Ext F F' ∧ Rep c.G F' (V.ref p) (.dct b ks ds) ∧ Ok c F' (upd H p (.frz od u)) σ (ρ.set i (.val (.dct b ks ds))) := by
  obtain ⟨ov, h1, h2⟩ := I.sl i _ h
  cases ov with
  | none => exact h2.elim
  | some v =>
    obtain ⟨p, e, h0, hf, vs, hd, r⟩ := h2
    subst e
    obtain ⟨u, hh, du, mk⟩ := hd.u
    refine ⟨p, u, h1, hh, du.mut, fun od => ?_⟩
    have ex : Ext F (upd F p (.frz od u)) := Ext.upd hf
    have rd : Rep c.G (upd F p (.frz od u)) (V.ref p) (.dct b ks ds) := .dct (b := b) (od := od) (mk od _ _ ex upd_same) (r.ext ex)
    exact ⟨_, ex, rd, I.freezeX h rfl h1 h0 hh du.nt du.nc (du.nl none) hf (fun _ z => by cases z) (fun _ _ z => by unfold LamX.CodeO at z; cases z) (du.nl (some od)) rd⟩
/-- a name, what it holds locked if wished -/
def tVarL (i : Nat) : TE := fun σ H Q => ∃ v, σ[i]? = some (some v) ∧ (Q v H ∨ ∃ p u, v = V.ref p ∧ H p = some u ∧ Mut (some u) ∧ ∀ od, Q v (upd H p (.frz od u)))
theorem pe_varL {e : Expr} {i : Nat} (h : PE X e (tVar i)) : PE X e (tVarL i) := by
  refine ⟨fun pins s σ H Q I k => ?_⟩
  obtain ⟨v, h1, h2⟩ := k
  refine thn (h.run pins s σ H (fun w H1 => w = v ∧ H1 = H) I ⟨v, h1, rfl, rfl⟩) fun u s1 ⟨w, H1, I1, r1, ew, eH⟩ => ?_
  subst ew eH
  rcases h2 with q | ⟨p, u0, ev, hp, mu, q⟩
  · exact ⟨_, _, I1, r1, q⟩
  · obtain ⟨od, I2⟩ := I1.lock hp mu
    exact ⟨_, _, I2, r1, q od⟩
theorem ve_var {e : Expr} {i : Nat} (h : PE X e (tVar i)) : PE X e (vt c (sV i)) := by
  refine pe_of (pe_varL h) fun σ H Q ⟨F, ρ, I, d, ρ', e, q⟩ => ?_
  unfold sV at e
  split at e
  · rename_i d' hd
    cases e
    obtain ⟨ov, h1, h2⟩ := I.sl i _ hd
    cases ov with
    | none => exact h2.elim
    | some v => exact ⟨v, h1, .inl (q v H F Ext.rfl' I h2)⟩
  · rename_i xs hd
    cases e
    obtain ⟨p, vs, h1, h2, h3, h4, h5⟩ := I.freeze hd
    exact ⟨_, h1, .inl (q _ H _ (Ext.upd h3) h5 (Rep.lst upd_same (h4.ext (Ext.upd h3))))⟩
  · rename_i bb ks ds hd
    cases e
    obtain ⟨p, u, h1, hh, mu, mk⟩ := I.freezeD hd
    refine ⟨_, h1, .inr ⟨p, u, rfl, hh, mu, fun od => ?_⟩⟩
    obtain ⟨F', h2, h3, h4⟩ := mk od
    exact q _ _ _ h2 h4 h3
  · cases e
theorem ve_k {e : Expr} {v : V} {d : D} (h : PE X e (tC v)) (r : ∀ F, Rep c.G F v d) : PE X e (vt c (sK d)) := by
  refine pe_of h fun σ H Q ⟨F, ρ, I, d', ρ', e, q⟩ => ?_
  cases e
  exact q v H F Ext.rfl' I (r F)
theorem ve_int {i : Int} {j pos} : PE X (.Constant (.int i) j pos) (vt c (sK (.int i))) := ve_k pe_int fun _ => .int i
theorem ve_bl {b : Bool} {j pos} : PE X (.Constant (.bool b) j pos) (vt c (sK (.bl b))) := ve_k pe_bl fun _ => .bl b
theorem ve_non {j pos} : PE X (.Constant .none j pos) (vt c (sK .non)) := ve_k pe_non fun _ => .non
theorem ve_str {x : Str} {j pos} : PE X (.Constant (.str x) j pos) (vt c (sK (.str x))) := ve_k pe_str fun _ => .str x
end
end VS

set_option Elab.async false
set_option linter.all false
set_option maxRecDepth 100000
set_option maxHeartbeats 4000000
namespace VS
open PySem PySem.Spec PyProof.Rows L2

/-- a size that always fits -/
abbrev LN : Nat := 1000000
theorem ln_fit {n : Nat} (h : n ≤ LN) : n ≤ sizeLine := Nat.le_trans h (by rw [sizeLine_eq]; decide)
abbrev G1 := D → Option D
abbrev G2 := D → D → Option D
abbrev GL := List D → Option D

/-- what is wanted behind an operation on values -/
def Aft (G : Gx) (F H : Hp) (d : D) (Q : VK) : Prop := ∀ v H' F', Grow F H F' H' → Rep G F' v d → Q v H'
theorem Aft.here {G : Gx} {F H : Hp} {d : D} {Q : VK} {v : V} (q : Aft G F H d Q) (e : Ext F H) (r : Rep G F v d) : Q v H := q v H F (.refl e) r
theorem Aft.newL {G : Gx} {F H : Hp} {vs : List V} {ds : List D} {Q : VK} (q : Aft G F H (.lst ds) Q) (e : Ext F H) (r : Reps G F vs ds) : ∀ p, H p = none → Q (.ref p) (upd H p (.lst vs)) :=
  fun p h => q _ _ _ (.new e h) (.lst upd_same (r.ext (Ext.upd (ext_none e h))))
theorem Aft.newT {G : Gx} {F H : Hp} {vs : List V} {ds : List D} {Q : VK} (q : Aft G F H (.tup ds) Q) (e : Ext F H) (r : Reps G F vs ds) : ∀ p, H p = none → Q (.ref p) (upd H p (.tup vs)) :=
  fun p h => q _ _ _ (.new e h) (.tup upd_same (r.ext (Ext.upd (ext_none e h))))

def rD (G : Gx) (g : G2) : R2 := fun x y H Q => ∃ F a b d, Ext F H ∧ Rep G F x a ∧ Rep G F y b ∧ g a b = some d ∧ Aft G F H d Q
def rU1 (G : Gx) (g : G1) : V → Hp → VK → Prop := fun x H Q => ∃ F a d, Ext F H ∧ Rep G F x a ∧ g a = some d ∧ Aft G F H d Q
def rL (G : Gx) (g : GL) : List V → Hp → VK → Prop := fun xs H Q => ∃ F ds d, Ext F H ∧ Reps G F xs ds ∧ g ds = some d ∧ Aft G F H d Q
abbrev OpD (c : Ctx) (X : Cx) (f : Value → Value → Sem Value) (g : G2) := OpR X f (rD c.G g)
abbrev CaD (c : Ctx) (X : Cx) (f : Value) (g : GL) := CallR X f (rL c.G g)
theorem opr_of {X : Cx} {f : Value → Value → Sem Value} {r r' : R2} (h : OpR X f r) (w : ∀ x y H Q, r' x y H Q → r x y H Q) : OpR X f r' :=
  fun pins s σ H x y v u Q I rx ry q => h pins s σ H x y v u Q I rx ry (w x y H Q q)
theorem car_of {X : Cx} {f : Value} {r r' : List V → Hp → VK → Prop} (h : CallR X f r) (w : ∀ x H Q, r' x H Q → r x H Q) : CallR X f r' :=
  fun pins s σ H x us Q I rx q => h pins s σ H x us Q I rx (w x H Q q)

def s2 (g : G2) (a b : SE) : SE := fun ρ => match a ρ with
  | some (x, ρ1) => match b ρ1 with
    | some (y, ρ2) => match g x y with
      | some d => some (d, ρ2)
      | none => none
    | none => none
  | none => none
def s1 (g : G1) (a : SE) : SE := fun ρ => match a ρ with
  | some (x, ρ1) => match g x with
    | some d => some (d, ρ1)
    | none => none
  | none => none
theorem s2_inv {g : G2} {a b : SE} {ρ : Rho} {d : D} {ρ' : Rho} (h : s2 g a b ρ = some (d, ρ')) : ∃ x ρ1 y, a ρ = some (x, ρ1) ∧ b ρ1 = some (y, ρ') ∧ g x y = some d := by
  unfold s2 at h
  split at h
  · split at h
    · split at h
      · cases h; exact ⟨_, _, _, by assumption, by assumption, by assumption⟩
      · cases h
    · cases h
  · cases h
theorem s1_inv {g : G1} {a : SE} {ρ : Rho} {d : D} {ρ' : Rho} (h : s1 g a ρ = some (d, ρ')) : ∃ x, a ρ = some (x, ρ') ∧ g x = some d := by
  unfold s1 at h
  split at h
  · split at h
    · cases h; exact ⟨_, by assumption, by assumption⟩
    · cases h
  · cases h
section
variable {c : Ctx} {X : Cx} {a b : Expr} {sa sb : SE} {pos : Pos}
/-- two operands, then an operation by values -/
theorem vt2 {g : G2} {σ : L2.St} {H : Hp} {Q : VK} (h : vt c (s2 g sa sb) σ H Q) : tOp (rD c.G g) (vt c sa) (vt c sb) σ H Q := by
  obtain ⟨F, ρ, I, d, ρ', e, q⟩ := h
  obtain ⟨x, ρ1, y, e1, e2, e3⟩ := s2_inv e
  refine ⟨F, ρ, I, x, ρ1, e1, fun v H1 F1 x1 I1 r1 => ⟨F1, ρ1, I1, y, ρ', e2, fun w H2 F2 x2 I2 r2 => ?_⟩⟩
  exact ⟨F2, x, y, d, I2.fh, r1.ext x2, r2, e3, fun v H' F' g r => q v H' F' ((x1.trans x2).trans g.f) (I2.grow g) r⟩
theorem ve_op {op : Operator} {g : G2} (ho : OpD c X (binaryOp op) g) (ha : PE X a (vt c sa)) (hb : PE X b (vt c sb)) : PE X (.BinOp a op b pos) (vt c (s2 g sa sb)) :=
  pe_of (pe_op ho ha hb) fun _ _ _ h => vt2 h
theorem ve_cmp {op : CmpOp} {g : G2} (ho : OpD c X (compareOp op) g) (ha : PE X a (vt c sa)) (hb : PE X b (vt c sb)) (hm : behindInMarks op b = false := by first | exact nomark _ | rfl) : PE X (.Compare a [op] [b] pos) (vt c (s2 g sa sb)) :=
  pe_of (pe_cmpR ho ha hb hm) fun _ _ _ h => vt2 h
/-- a value that is True or False, as a test -/
def sB (s : SE) : SB := fun ρ => match s ρ with
  | some (.bl b, ρ') => some (b, ρ')
  | _ => none
theorem sB_inv {s : SE} {ρ : Rho} {b : Bool} {ρ' : Rho} (h : sB s ρ = some (b, ρ')) : s ρ = some (.bl b, ρ') := by
  unfold sB at h
  split at h
  · cases h; assumption
  · cases h
theorem vb_test {t : TE} {s : SE} {σ : L2.St} {H : Hp} {Q : Bool → Hp → Prop} (w : ∀ Q, vt c s σ H Q → t σ H Q) (h : vb c (sB s) σ H Q) : t σ H fun x H' => ∃ k, x = .bl k ∧ Q k H' := by
  obtain ⟨F, ρ, I, b, ρ', e, q⟩ := h
  refine w _ ⟨F, ρ, I, .bl b, ρ', sB_inv e, fun v H' F' x I' r => ?_⟩
  cases r
  exact ⟨b, rfl, q H' F' x I'⟩
theorem vt_cmp {op : CmpOp} {g : G2} (ho : OpD c X (compareOp op) g) (ha : PE X a (vt c sa)) (hb : PE X b (vt c sb)) (hm : behindInMarks op b = false := by first | exact nomark _ | rfl) : PT X (.Compare a [op] [b] pos) (vb c (sB (s2 g sa sb))) :=
  pt_of (pt_cmpR ho ha hb hm) fun _ _ _ h => vb_test (fun _ => vt2) h
theorem vt_val {e : Expr} {s : SE} (h : PE X e (vt c s)) (he : ∀ whole, isTrue e X.env whole = (do let v ← whole; standAt e.pos; holding [v] (truthy v)) := by intro _; rfl) : PT X e (vb c (sB s)) :=
  pt_of (pt_val h he) fun _ _ _ h => vb_test (fun _ z => z) h
end

/-! ints -/
abbrev Bd (i : Int) : Prop := i.natAbs < 2 ^ 4000
theorem Bd.log {i : Int} (h : Bd i) : i.natAbs.log2 < 4000 := PySem.Flt.log2_lt_of (by decide) h
def gSub : G2
  | .int a, .int b => some (.int (a - b))
  | _, _ => none
def gMul : G2
  | .int a, .int b => if Bd a ∧ Bd b then some (.int (a * b)) else none
  | _, _ => none
def gFdiv : G2
  | .int a, .int b => if 0 < b ∧ Bd b then some (.int (a / b)) else none
  | _, _ => none
def gMod : G2
  | .int a, .int b => if 0 < b then some (.int (a % b)) else none
  | _, _ => none
def gPow : G2
  | .int a, .int b => if 0 ≤ b ∧ (Builtin.Int.intBits a : Int) * b ≤ 2 ^ 27 then some (.int (a ^ b.toNat)) else none
  | _, _ => none
def gCmp (p : Int → Int → Bool) : G2
  | .int a, .int b => some (.bl (p a b))
  | _, _ => none
def gLt : G2 := gCmp fun a b => decide (a < b)
def gLe : G2 := gCmp fun a b => decide (a ≤ b)
def gGt : G2 := gCmp fun a b => decide (b < a)
def gGe : G2 := gCmp fun a b => decide (b ≤ a)
def gNeg : G1
  | .int a => some (.int (-a))
  | _ => none
def gAdd : G2
  | .int a, .int b => some (.int (a + b))
  | .str a, .str b => if a.length + b.length ≤ LN then some (.str (a ++ b)) else none
  | .lst a, .lst b => if a.length + b.length ≤ LN then some (.lst (a ++ b)) else none
  | .tup a, .tup b => if a.length + b.length ≤ LN then some (.tup (a ++ b)) else none
  | _, _ => none
section
variable {c : Ctx} {X : Cx}
theorem od_sub : OpD c X (binaryOp .Sub) gSub := opr_of op_sub fun x y H Q ⟨F, a, b, d, e, ra, rb, hg, q⟩ => by
  unfold gSub at hg
  split at hg
  · cases hg; cases ra; cases rb; exact ⟨_, _, rfl, rfl, q.here e (.int _)⟩
  · cases hg
theorem od_mul : OpD c X (binaryOp .Mult) gMul := opr_of op_mulW fun x y H Q ⟨F, a, b, d, e, ra, rb, hg, q⟩ => by
  unfold gMul at hg
  split at hg
  · split at hg
    · rename_i h
      cases hg; cases ra; cases rb
      exact ⟨_, _, rfl, rfl, (by have h1 := h.1.log; have h2 := h.2.log; unfold CMulW; omega), q.here e (.int _)⟩
    · cases hg
  · cases hg
theorem od_fdiv : OpD c X (binaryOp .FloorDiv) gFdiv := opr_of op_fdivW fun x y H Q ⟨F, a, b, d, e, ra, rb, hg, q⟩ => by
  unfold gFdiv at hg
  split at hg
  · split at hg
    · rename_i h
      cases hg; cases ra; cases rb
      exact ⟨_, _, rfl, rfl, ⟨h.1, by have := h.2.log; omega⟩, q.here e (.int _)⟩
    · cases hg
  · cases hg
theorem od_mod : OpD c X (binaryOp .Mod) gMod := opr_of op_mod fun x y H Q ⟨F, a, b, d, e, ra, rb, hg, q⟩ => by
  unfold gMod at hg
  split at hg
  · split at hg
    · rename_i h
      cases hg; cases ra; cases rb
      exact ⟨_, _, rfl, rfl, h, q.here e (.int _)⟩
    · cases hg
  · cases hg
theorem od_pow : OpD c X (binaryOp .Pow) gPow := by
  intro pins s σ H x y v u Q I rx ry ⟨F, a, b, d, e, ra, rb, hg, q⟩
  unfold gPow at hg
  split at hg
  · split at hg
    · rename_i h
      cases hg; cases ra; cases rb
      obtain ⟨t, rfl⟩ := rx
      obtain ⟨t', rfl⟩ := ry
      exact pow_int h.1 h.2 ⟨.int _, H, I.tok _, ⟨_, rfl⟩, q.here e (.int _)⟩
    · cases hg
  · cases hg
theorem od_cmp {op : CmpOp} {p : Int → Int → Bool} (h : OpR X (compareOp op) (rI0 fun i j => .bl (p i j))) : OpD c X (compareOp op) (gCmp p) := opr_of h fun x y H Q ⟨F, a, b, d, e, ra, rb, hg, q⟩ => by
  unfold gCmp at hg
  split at hg
  · cases hg; cases ra; cases rb; exact ⟨_, _, rfl, rfl, q.here e (.bl _)⟩
  · cases hg
theorem od_lt : OpD c X (compareOp .Lt) gLt := od_cmp op_lt
theorem od_le : OpD c X (compareOp .LtE) gLe := od_cmp op_le
theorem od_gt : OpD c X (compareOp .Gt) gGt := od_cmp op_gt
theorem od_ge : OpD c X (compareOp .GtE) gGe := od_cmp op_ge
theorem od_add : OpD c X (binaryOp .Add) gAdd :=
  opr_of ((op_add.or op_add_str).or (op_cat.or op_catA)) fun x y H Q ⟨F, a, b, d, e, ra, rb, hg, q⟩ => by
  unfold gAdd at hg
  split at hg
  · cases hg; cases ra; cases rb; exact .inl (.inl ⟨_, _, rfl, rfl, q.here e (.int _)⟩)
  · split at hg
    · rename_i h
      cases hg; cases ra; cases rb; exact .inl (.inr ⟨_, _, rfl, rfl, ln_fit h, q.here e (.str _)⟩)
    · cases hg
  · split at hg
    · rename_i h
      cases hg
      cases ra with
      | lst h1 r1 =>
        cases rb with
        | lst h2 r2 =>
          refine .inr (.inl ⟨_, _, _, _, rfl, rfl, e _ _ h1, e _ _ h2, by rw [r1.length, r2.length]; exact ln_fit h, fun p hp => q.newL e (r1.append r2) p hp⟩)
    · cases hg
  · split at hg
    · rename_i h
      cases hg
      cases ra with
      | tup h1 r1 =>
        cases rb with
        | tup h2 r2 =>
          refine .inr (.inr ⟨_, _, _, _, rfl, rfl, .of (e _ _ h1), .of (e _ _ h2), by rw [r1.length, r2.length]; exact ln_fit h, fun z => ?_, fun _ z => ?_, fun _ _ p hp => q.newT e (r1.append r2) p hp⟩)
          · subst z; cases r1; exact q.here e (.tup h2 r2)
          · subst z; cases r2; rw [List.append_nil] at q; exact q.here e (.tup h1 r1)
    · cases hg
  · cases hg
end
end VS

set_option Elab.async false
set_option linter.all false
set_option maxRecDepth 100000
set_option maxHeartbeats 4000000
namespace VS
open PySem PySem.Spec PyProof.Rows L2

/-! == of data -/
mutual
def toP : D → Option PyData
  | .non => some .none
  | .bl b => some (.bool b)
  | .int i => some (.int i)
  | .str x => some (.str x)
  | .lst xs => match toPs xs with
    | some ys => some (.list ys)
    | none => none
  | .tup xs => match toPs xs with
    | some ys => some (.tuple ys)
    | none => none
  | _ => none
def toPs : List D → Option (List PyData)
  | [] => some []
  | d :: ds => match toP d, toPs ds with
    | some x, some xs => some (x :: xs)
    | _, _ => none
end
mutual
theorem Rep.dp {G : Gx} {F : Hp} {K : PySem.W.Frag} {H : Hp} (e : Ext F H) : ∀ {v : V} {d : D} {x : PyData}, Rep G F v d → toP d = some x → Dp K H v x
  | _, _, _, .non, h => by cases h; exact .non
  | _, _, _, .bl b, h => by cases h; exact .bl b
  | _, _, _, .int b, h => by cases h; exact .int b
  | _, _, _, .str b, h => by cases h; exact .str b
  | _, _, _, .adr a, h => by cases h
  | _, _, _, .scr _ _, h => by cases h
  | _, _, _, .ins _ _ _, h => by cases h
  | _, _, _, .dct _ _, h => by unfold toP at h; cases h
  | _, _, _, .exc _ _ _, h => by unfold toP at h; cases h
  | _, _, _, .lst h1 r, h => by
    unfold toP at h
    split at h
    · rename_i ys hy; cases h; exact .lst (.of (e _ _ h1)) (Reps.dp e r hy)
    · cases h
  | _, _, _, .tup h1 r, h => by
    unfold toP at h
    split at h
    · rename_i ys hy; cases h; exact .tup (.of (e _ _ h1)) (Reps.dp e r hy)
    · cases h
theorem Reps.dp {G : Gx} {F : Hp} {K : PySem.W.Frag} {H : Hp} (e : Ext F H) : ∀ {vs : List V} {ds : List D} {xs : List PyData}, Reps G F vs ds → toPs ds = some xs → DpAll K H vs xs
  | _, _, _, .nil, h => by unfold toPs at h; cases h; exact .nil
  | _, _, _, .cons h1 r, h => by
    unfold toPs at h
    split at h
    · rename_i y ys h2 h3; cases h; exact .cons (Rep.dp e h1 h2) (Reps.dp e r h3)
    · cases h
end
def scalE : D → D → Option Bool
  | .int a, .int b => some (decide (a = b))
  | .str a, .str b => some (decide (a = b))
  | .bl a, .bl b => some (decide (a = b))
  | .non, .non => some true
  | .non, .int _ => some false | .int _, .non => some false | .non, .bl _ => some false | .bl _, .non => some false
  | .non, .str _ => some false | .str _, .non => some false | .int _, .str _ => some false | .str _, .int _ => some false
  | _, _ => none
def eqD (a b : D) : Option Bool := match scalE a b with
  | some r => some r
  | none => match toP a, toP b with
    | some x, some y => if SeqAt.shaped x = true ∧ SeqAt.shaped y = true then some (PyData.eqv x y) else none
    | _, _ => none
def gEq : G2 := fun a b => (eqD a b).map .bl
def gNe : G2 := fun a b => (eqD a b).map fun r => .bl (!r)
theorem scal_of {G : Gx} {F : Hp} {x y : V} {a b : D} {r : Bool} (ra : Rep G F x a) (rb : Rep G F y b) (h : scalE a b = some r) : scal x y = true ∧ decide (x = y) = r := by
  unfold scalE at h
  split at h
  all_goals first
    | (cases h; cases ra; cases rb; exact ⟨rfl, by simp⟩)
    | cases h
section
variable {c : Ctx} {X : Cx}
theorem od_eq (hu : X.A.units + 64 < cLine) : OpD c X (compareOp .Eq) gEq := opr_of (op_eq.or (op_eqD hu)) fun x y H Q ⟨F, a, b, d, e, ra, rb, hg, q⟩ => by
  unfold gEq eqD at hg
  cases h : scalE a b with
  | some r =>
    rw [h] at hg; cases hg
    obtain ⟨h1, h2⟩ := scal_of ra rb h
    exact .inl ⟨h1, by rw [h2]; exact q.here e (.bl _)⟩
  | none =>
    rw [h] at hg
    dsimp only at hg
    split at hg
    · rename_i x' y' h1 h2
      split at hg
      · rename_i hs
        cases hg
        exact .inr ⟨x', y', ra.dp e h1, rb.dp e h2, hs.1, hs.2, q.here e (.bl _)⟩
      · cases hg
    · cases hg
theorem od_ne (hu : X.A.units + 64 < cLine) : OpD c X (compareOp .NotEq) gNe := opr_of (op_ne.or (op_neD hu)) fun x y H Q ⟨F, a, b, d, e, ra, rb, hg, q⟩ => by
  unfold gNe eqD at hg
  cases h : scalE a b with
  | some r =>
    rw [h] at hg; cases hg
    obtain ⟨h1, h2⟩ := scal_of ra rb h
    exact .inl ⟨h1, by rw [h2]; exact q.here e (.bl _)⟩
  | none =>
    rw [h] at hg
    dsimp only at hg
    split at hg
    · rename_i x' y' h1 h2
      split at hg
      · rename_i hs
        cases hg
        exact .inr ⟨x', y', ra.dp e h1, rb.dp e h2, hs.1, hs.2, q.here e (.bl _)⟩
      · cases hg
    · cases hg
end

/-! in -/
def flatD : D → Bool
  | .non => true | .bl _ => true | .int _ => true | .str _ => true | _ => false
def eqF : D → D → Bool
  | .non, .non => true
  | .bl a, .bl b => a == b
  | .bl a, .int b => (if a then 1 else 0) == b
  | .int a, .bl b => a == (if b then 1 else 0)
  | .int a, .int b => a == b
  | .str a, .str b => a == b
  | _, _ => false
theorem flat_of {G : Gx} {F : Hp} {x : V} {a : D} (ra : Rep G F x a) (h : flatD a = true) : flatV x = true := by
  cases ra <;> first | rfl | cases h
theorem eqF_of {G : Gx} {F : Hp} {x y : V} {a b : D} (ra : Rep G F x a) (rb : Rep G F y b) (h : flatD a = true) (h' : flatD b = true) : eqV x y = eqF a b := by
  cases ra <;> first | (cases rb <;> first | rfl | cases h') | cases h
theorem flats_of {G : Gx} {F : Hp} : ∀ {xs : List V} {as : List D}, Reps G F xs as → as.all flatD = true → xs.all flatV = true
  | _, _, .nil, _ => rfl
  | _, _, .cons h r, e => by
    simp only [List.all_cons, Bool.and_eq_true] at e ⊢
    exact ⟨flat_of h e.1, flats_of r e.2⟩
theorem anyF_of {G : Gx} {F : Hp} {y : V} {b : D} (rb : Rep G F y b) (hb : flatD b = true) : ∀ {xs : List V} {as : List D}, Reps G F xs as → as.all flatD = true → (xs.any fun x => eqV x y) = as.any fun a => eqF a b
  | _, _, .nil, _ => rfl
  | _, _, .cons h r, e => by
    simp only [List.all_cons, Bool.and_eq_true] at e
    simp only [List.any_cons]
    rw [eqF_of h rb e.1 hb, anyF_of rb hb r e.2]
def inD (a : D) (xs : List D) : Option Bool := if flatD a = true ∧ xs.all flatD = true then some (xs.any fun x => eqF x a) else none
def inB : D → D → Option Bool
  | a, .lst xs => inD a xs
  | a, .tup xs => inD a xs
  | .str ⟨⟨[k]⟩⟩, .str z => some (decide (k ∈ z.cps.toList))
  | _, _ => none
def gIn : G2 := fun a b => (inB a b).map .bl
def gNotIn : G2 := fun a b => (inB a b).map fun r => .bl (!r)
theorem in_of {G : Gx} {F H : Hp} {K : PySem.W.Frag} {x y : V} {a b : D} {r : Bool} (e : Ext F H) (ra : Rep G F x a) (rb : Rep G F y b) (h : inB a b = some r) :
    (∃ p xs, y = .ref p ∧ (SqL K H p xs ∨ SqT K H p xs) ∧ flatV x = true ∧ xs.all flatV = true ∧ inV x xs = r) ∨ (∃ (k : Nat) (z : Str), x = .str ⟨#[k]⟩ ∧ y = .str z ∧ decide (k ∈ z.cps.toList) = r) := by
  have core : ∀ {ds : List D} {vs : List V}, Reps G F vs ds → inD a ds = some r → flatV x = true ∧ vs.all flatV = true ∧ inV x vs = r := fun {ds vs} rs h => by
    unfold inD at h
    split at h
    · rename_i h1
      cases h
      exact ⟨flat_of ra h1.1, flats_of rs h1.2, anyF_of ra h1.1 rs h1.2⟩
    · cases h
  unfold inB at h
  split at h
  · cases rb with
    | lst h1 rs => exact .inl ⟨_, _, rfl, .inl (.of (e _ _ h1)), core rs h⟩
  · cases rb with
    | tup h1 rs => exact .inl ⟨_, _, rfl, .inr (.of (e _ _ h1)), core rs h⟩
  · cases h; cases ra; cases rb; exact .inr ⟨_, _, rfl, rfl, rfl⟩
  · cases h
section
variable {c : Ctx} {X : Cx}
theorem od_in : OpD c X (compareOp .In) gIn := opr_of (op_in_seq.or op_in_sign) fun x y H Q ⟨F, a, b, d, e, ra, rb, hg, q⟩ => by
  unfold gIn at hg
  cases h : inB a b with
  | none => rw [h] at hg; cases hg
  | some r =>
    rw [h] at hg; cases hg
    rcases in_of (K := X.K) e ra rb h with ⟨p, xs, h1, h2, h3, h4, h5⟩ | ⟨k, z, h1, h2, h3⟩
    · exact .inl ⟨p, xs, h1, h2, h3, h4, by subst h5; exact q.here e (.bl _)⟩
    · exact .inr ⟨k, z, h1, h2, by rw [h3]; exact q.here e (.bl _)⟩
theorem od_notin : OpD c X (compareOp .NotIn) gNotIn := opr_of (op_notIn_seq.or op_notIn_sign) fun x y H Q ⟨F, a, b, d, e, ra, rb, hg, q⟩ => by
  unfold gNotIn at hg
  cases h : inB a b with
  | none => rw [h] at hg; cases hg
  | some r =>
    rw [h] at hg; cases hg
    rcases in_of (K := X.K) e ra rb h with ⟨p, xs, h1, h2, h3, h4, h5⟩ | ⟨k, z, h1, h2, h3⟩
    · exact .inl ⟨p, xs, h1, h2, h3, h4, by subst h5; exact q.here e (.bl _)⟩
    · exact .inr ⟨k, z, h1, h2, by rw [h3]; exact q.here e (.bl _)⟩
/-- is None -/
def isN : D → Bool
  | .non => true
  | _ => false
def gIsN : G1 := fun a => some (.bl (isN a))
theorem isN_of {G : Gx} {F : Hp} {x : V} {a : D} (r : Rep G F x a) : decide (x = V.non) = isN a := by cases r <;> simp [isN]
theorem ve_isN {a : Expr} {sa : SE} {j pos pos'} (ha : PE X a (vt c sa)) : PE X (.Compare a [.Is] [.Constant .none j pos'] pos) (vt c (s1 gIsN sa)) := by
  refine pe_of (pe_cmp (pc_isN ha) rfl) fun σ H Q ⟨F, ρ, I, d, ρ', e, q⟩ => ?_
  obtain ⟨x, e1, e2⟩ := s1_inv e
  cases e2
  exact ⟨F, ρ, I, x, ρ', e1, fun v H1 F1 x1 I1 r1 => by show Q (.bl (decide (v = V.non))) H1; rw [isN_of r1]; exact q _ _ _ x1 I1 (.bl _)⟩
theorem vt_isN {a : Expr} {sa : SE} {j pos pos'} (ha : PE X a (vt c sa)) : PT X (.Compare a [.Is] [.Constant .none j pos'] pos) (vb c (sB (s1 gIsN sa))) := by
  refine pt_of (pt_cmp (pc_isN ha) rfl) fun σ H Q h => ?_
  obtain ⟨F, ρ, I, b, ρ', e, q⟩ := h
  obtain ⟨x, e1, e2⟩ := s1_inv (sB_inv e)
  cases e2
  exact ⟨F, ρ, I, x, ρ', e1, fun v H1 F1 x1 I1 r1 => ⟨_, rfl, by rw [isN_of r1]; exact q _ _ x1 I1⟩⟩
/-- a op1 b op2 c -/
def sCh (g g' : G2) (a b d : SE) : SE := fun ρ => match a ρ with
  | some (x, ρ1) => match b ρ1 with
    | some (y, ρ2) => match g x y with
      | some (.bl true) => match d ρ2 with
        | some (z, ρ3) => match g' y z with
          | some r => some (r, ρ3)
          | none => none
        | none => none
      | some (.bl false) => some (.bl false, ρ2)
      | _ => none
    | none => none
  | none => none
theorem chain_w {sa sb sd : SE} {g g' : G2} (σ : L2.St) (H : Hp) (Q : VK) (h : vt c (sCh g g' sa sb sd) σ H Q) : tChain (rD c.G g) (rD c.G g') (vt c sa) (vt c sb) (vt c sd) σ H Q := by
  obtain ⟨F, ρ, I, d, ρ', e, q⟩ := h
  unfold sCh at e
  split at e
  · rename_i x ρ1 e1
    split at e
    · rename_i y ρ2 e2
      refine ⟨F, ρ, I, x, ρ1, e1, fun v H1 F1 x1 I1 r1 => ⟨F1, ρ1, I1, y, ρ2, e2, fun w H2 F2 x2 I2 r2 => ?_⟩⟩
      split at e
      · rename_i e3
        split at e
        · rename_i z ρ3 e4
          split at e
          · rename_i r e5
            cases e
            refine ⟨F2, x, y, _, I2.fh, r1.ext x2, r2, e3, fun v3 H3 F3 g3 r3 => ?_⟩
            cases r3
            refine ⟨true, rfl, iteT ⟨F3, ρ2, I2.grow g3, z, ρ', e4, fun w4 H4 F4 x4 I4 r4 => ?_⟩⟩
            exact ⟨F4, y, z, _, I4.fh, (r2.ext g3.f).ext x4, r4, e5, fun v5 H5 F5 g5 r5 => q _ _ _ (((x1.trans x2).trans g3.f).trans (x4.trans g5.f)) (I4.grow g5) r5⟩
          · cases e
        · cases e
      · rename_i e3
        cases e
        refine ⟨F2, x, y, _, I2.fh, r1.ext x2, r2, e3, fun v3 H3 F3 g3 r3 => ?_⟩
        cases r3
        exact ⟨false, rfl, iteF (q _ _ _ ((x1.trans x2).trans g3.f) (I2.grow g3) (.bl _))⟩
      · cases e
    · cases e
  · cases e
theorem ve_chain {op op' : CmpOp} {g g' : G2} {a b d : Expr} {sa sb sd : SE} {pos} (ho : OpD c X (compareOp op) g) (ho' : OpD c X (compareOp op') g') (ha : PE X a (vt c sa)) (hb : PE X b (vt c sb)) (hd : PE X d (vt c sd))
    (hm : lastMarks [op, op'] [b, d] = false := by with_unfolding_all rfl) : PE X (.Compare a [op, op'] [b, d] pos) (vt c (sCh g g' sa sb sd)) := pe_of (pe_chain ho ho' ha hb hd hm) chain_w
theorem vt_chain {op op' : CmpOp} {g g' : G2} {a b d : Expr} {sa sb sd : SE} {pos} (ho : OpD c X (compareOp op) g) (ho' : OpD c X (compareOp op') g') (ha : PE X a (vt c sa)) (hb : PE X b (vt c sb)) (hd : PE X d (vt c sd))
    (hm : lastMarks [op, op'] [b, d] = false := by with_unfolding_all rfl) : PT X (.Compare a [op, op'] [b, d] pos) (vb c (sB (sCh g g' sa sb sd))) :=
  pt_of (pt_chain ho ho' ha hb hd hm) fun _ _ _ h => vb_test (chain_w _ _) h

/-! and, or, not -/
def bAnd (a b : SB) : SB := fun ρ => match a ρ with
  | some (true, ρ1) => b ρ1
  | some (false, ρ1) => some (false, ρ1)
  | none => none
def bOr (a b : SB) : SB := fun ρ => match a ρ with
  | some (true, ρ1) => some (true, ρ1)
  | some (false, ρ1) => b ρ1
  | none => none
def bNot (a : SB) : SB := fun ρ => match a ρ with
  | some (b, ρ1) => some (!b, ρ1)
  | none => none
theorem vb_mono {s : SB} {σ : L2.St} {H : Hp} {Q Q' : Bool → Hp → Prop} (h : vb c s σ H Q) (w : ∀ b H, Q b H → Q' b H) : vb c s σ H Q' := by
  obtain ⟨F, ρ, I, b, ρ', e, q⟩ := h
  exact ⟨F, ρ, I, b, ρ', e, fun H' F' x I' => w _ _ (q H' F' x I')⟩
theorem and_w {sa sb : SB} (σ : L2.St) (H : Hp) (Q : Bool → Hp → Prop) (h : vb c (bAnd sa sb) σ H Q) : tAnd (vb c sa) (vb c sb) σ H Q := by
  obtain ⟨F, ρ, I, b, ρ', e, q⟩ := h
  unfold bAnd at e
  split at e
  · rename_i ρ1 e1
    exact ⟨F, ρ, I, true, ρ1, e1, fun H1 F1 x1 I1 => iteT ⟨F1, ρ1, I1, b, ρ', e, fun H2 F2 x2 I2 => q _ _ (x1.trans x2) I2⟩⟩
  · rename_i ρ1 e1
    cases e
    exact ⟨F, ρ, I, false, ρ', e1, fun H1 F1 x1 I1 => iteF (q _ _ x1 I1)⟩
  · cases e
theorem or_w {sa sb : SB} (σ : L2.St) (H : Hp) (Q : Bool → Hp → Prop) (h : vb c (bOr sa sb) σ H Q) : tOr (vb c sa) (vb c sb) σ H Q := by
  obtain ⟨F, ρ, I, b, ρ', e, q⟩ := h
  unfold bOr at e
  split at e
  · rename_i ρ1 e1
    cases e
    exact ⟨F, ρ, I, true, ρ', e1, fun H1 F1 x1 I1 => iteT (q _ _ x1 I1)⟩
  · rename_i ρ1 e1
    exact ⟨F, ρ, I, false, ρ1, e1, fun H1 F1 x1 I1 => iteF ⟨F1, ρ1, I1, b, ρ', e, fun H2 F2 x2 I2 => q _ _ (x1.trans x2) I2⟩⟩
  · cases e
theorem vw_and {a b : Expr} {rest : List Expr} {pos} {sa sb : SB} (ha : PT X a (vb c sa)) (hb : PW X (.BoolOp .And (b :: rest) pos) (vb c sb)) : PW X (.BoolOp .And (a :: b :: rest) pos) (vb c (bAnd sa sb)) :=
  ⟨fun wh pins s σ H Q I q => (pw_and ha hb).run wh pins s σ H Q I (and_w σ H Q q)⟩
theorem vw_or {a b : Expr} {rest : List Expr} {pos} {sa sb : SB} (ha : PT X a (vb c sa)) (hb : PW X (.BoolOp .Or (b :: rest) pos) (vb c sb)) : PW X (.BoolOp .Or (a :: b :: rest) pos) (vb c (bOr sa sb)) :=
  ⟨fun wh pins s σ H Q I q => (pw_or ha hb).run wh pins s σ H Q I (or_w σ H Q q)⟩
theorem vt_not {a : Expr} {pos} {sa : SB} (ha : PT X a (vb c sa)) : PT X (.UnaryOp .Not a pos) (vb c (bNot sa)) := by
  refine pt_of (pt_not ha) fun σ H Q ⟨F, ρ, I, b, ρ', e, q⟩ => ?_
  unfold bNot at e
  split at e
  · rename_i b' ρ1 e1
    cases e
    exact ⟨F, ρ, I, b', ρ', e1, q⟩
  · cases e
/-- as values -/
def sAnd (a b : SE) : SE := fun ρ => match a ρ with
  | some (.bl true, ρ1) => b ρ1
  | some (.bl false, ρ1) => some (.bl false, ρ1)
  | _ => none
def sOr (a b : SE) : SE := fun ρ => match a ρ with
  | some (.bl true, ρ1) => some (.bl true, ρ1)
  | some (.bl false, ρ1) => b ρ1
  | _ => none
def gNot : G1
  | .bl b => some (.bl (!b))
  | _ => none
theorem ve_and {a b : Expr} {rest : List Expr} {pos} {sa sb : SE} (ha : PE X a (vt c sa)) (hb : PE X (.BoolOp .And (b :: rest) pos) (vt c sb)) : PE X (.BoolOp .And (a :: b :: rest) pos) (vt c (sAnd sa sb)) := by
  refine pe_of (pe_and ha hb) fun σ H Q ⟨F, ρ, I, d, ρ', e, q⟩ => ?_
  unfold sAnd at e
  split at e
  · rename_i ρ1 e1
    exact ⟨F, ρ, I, _, ρ1, e1, fun v H1 F1 x1 I1 r1 => by cases r1; exact ⟨true, rfl, iteT ⟨F1, ρ1, I1, d, ρ', e, fun v H2 F2 x2 I2 r2 => q _ _ _ (x1.trans x2) I2 r2⟩⟩⟩
  · rename_i ρ1 e1
    cases e
    exact ⟨F, ρ, I, _, ρ', e1, fun v H1 F1 x1 I1 r1 => by cases r1; exact ⟨false, rfl, iteF (q _ _ _ x1 I1 (.bl _))⟩⟩
  · cases e
theorem ve_or {a b : Expr} {rest : List Expr} {pos} {sa sb : SE} (ha : PE X a (vt c sa)) (hb : PE X (.BoolOp .Or (b :: rest) pos) (vt c sb)) : PE X (.BoolOp .Or (a :: b :: rest) pos) (vt c (sOr sa sb)) := by
  refine pe_of (pe_or ha hb) fun σ H Q ⟨F, ρ, I, d, ρ', e, q⟩ => ?_
  unfold sOr at e
  split at e
  · rename_i ρ1 e1
    cases e
    exact ⟨F, ρ, I, _, ρ', e1, fun v H1 F1 x1 I1 r1 => by cases r1; exact ⟨true, rfl, iteT (q _ _ _ x1 I1 (.bl _))⟩⟩
  · rename_i ρ1 e1
    exact ⟨F, ρ, I, _, ρ1, e1, fun v H1 F1 x1 I1 r1 => by cases r1; exact ⟨false, rfl, iteF ⟨F1, ρ1, I1, d, ρ', e, fun v H2 F2 x2 I2 r2 => q _ _ _ (x1.trans x2) I2 r2⟩⟩⟩
  · cases e
theorem ve_one {a : Expr} {op} {pos} {sa : SE} (ha : PE X a (vt c sa)) : PE X (.BoolOp op [a] pos) (vt c sa) := pe_one ha
theorem ve_not {a : Expr} {pos} {sa : SE} (ha : PE X a (vt c sa)) : PE X (.UnaryOp .Not a pos) (vt c (s1 gNot sa)) := by
  refine pe_of (pe_not ha) fun σ H Q ⟨F, ρ, I, d, ρ', e, q⟩ => ?_
  obtain ⟨x, e1, e2⟩ := s1_inv e
  unfold gNot at e2
  split at e2
  · cases e2
    exact ⟨F, ρ, I, _, ρ', e1, fun v H1 F1 x1 I1 r1 => by cases r1; exact ⟨_, rfl, q _ _ _ x1 I1 (.bl _)⟩⟩
  · cases e2
theorem ve_neg {a : Expr} {pos} {sa : SE} (ha : PE X a (vt c sa)) : PE X (.UnaryOp .USub a pos) (vt c (s1 gNeg sa)) := by
  refine pe_of (pe_un un_neg ha) fun σ H Q ⟨F, ρ, I, d, ρ', e, q⟩ => ?_
  obtain ⟨x, e1, e2⟩ := s1_inv e
  unfold gNeg at e2
  split at e2
  · cases e2
    exact ⟨F, ρ, I, _, ρ', e1, fun v H1 F1 x1 I1 r1 => by cases r1; exact ⟨_, rfl, q _ _ _ x1 I1 (.int _)⟩⟩
  · cases e2
end
end VS

set_option Elab.async false
set_option linter.all false
set_option maxRecDepth 100000
set_option maxHeartbeats 4000000
namespace VS
open PySem PySem.Spec PyProof.Rows L2

/-! argument lists -/
abbrev SA := Rho → Option (List D × Rho)
def va (c : Ctx) (s : SA) : TA := fun σ H Q => ∃ F ρ, Ok c F H σ ρ ∧ ∃ ds ρ', s ρ = some (ds, ρ') ∧ ∀ vs H' F', Ext F F' → Ok c F' H' σ ρ' → Reps c.G F' vs ds → Q vs H'
def aN : SA := fun ρ => some ([], ρ)
def aC (a : SE) (r : SA) : SA := fun ρ => match a ρ with
  | some (x, ρ1) => match r ρ1 with
    | some (xs, ρ2) => some (x :: xs, ρ2)
    | none => none
  | none => none
section
variable {c : Ctx} {X : Cx}
theorem va_nil : PA X [] (va c aN) := pa_of pa_nil fun σ H Q ⟨F, ρ, I, ds, ρ', e, q⟩ => by cases e; exact q [] H F Ext.rfl' I .nil
theorem va_cons {e : Expr} {es : List Expr} {a : SE} {r : SA} (ha : PE X e (vt c a)) (hr : PA X es (va c r)) (hs : starEach (e :: es) X.env = (false, eval e X.env) :: starEach es X.env := by rfl) : PA X (e :: es) (va c (aC a r)) :=
  pa_of (pa_cons ha hr hs) fun σ H Q ⟨F, ρ, I, ds, ρ', e, q⟩ => by
    unfold aC at e
    split at e
    · rename_i x ρ1 e1
      split at e
      · rename_i xs ρ2 e2
        cases e
        exact ⟨F, ρ, I, x, ρ1, e1, fun v H1 F1 x1 I1 r1 => ⟨F1, ρ1, I1, xs, ρ', e2, fun vs H2 F2 x2 I2 r2 => q _ _ _ (x1.trans x2) I2 (.cons (r1.ext x2) r2)⟩⟩
      · cases e
    · cases e
/-- what becomes of the arguments -/
def sL (g : GL) (a : SA) : SE := fun ρ => match a ρ with
  | some (xs, ρ1) => match g xs with
    | some d => some (d, ρ1)
    | none => none
  | none => none
theorem sL_inv {g : GL} {a : SA} {ρ : Rho} {d : D} {ρ' : Rho} (h : sL g a ρ = some (d, ρ')) : ∃ xs, a ρ = some (xs, ρ') ∧ g xs = some d := by
  unfold sL at h
  split at h
  · split at h
    · cases h; exact ⟨_, by assumption, by assumption⟩
    · cases h
  · cases h
theorem vtL {g : GL} {sa : SA} {σ : L2.St} {H : Hp} {Q : VK} (h : vt c (sL g sa) σ H Q) : va c sa σ H fun xs H1 => rL c.G g xs H1 Q := by
  obtain ⟨F, ρ, I, d, ρ', e, q⟩ := h
  obtain ⟨xs, e1, e2⟩ := sL_inv e
  exact ⟨F, ρ, I, xs, ρ', e1, fun vs H1 F1 x1 I1 r1 => ⟨F1, xs, d, I1.fh, r1, e2, fun v H' F' g r => q v H' F' (x1.trans g.f) (I1.grow g) r⟩⟩
def gTup : GL := fun xs => if xs.length ≤ LN then some (.tup xs) else none
def gLst : GL := fun xs => if xs.length ≤ LN then some (.lst xs) else none
theorem ve_tup {es : List Expr} {k pos} {sa : SA} (h : PA X es (va c sa)) : PE X (.Tuple es k pos) (vt c (sL gTup sa)) :=
  pe_of (pe_tup h) fun σ H Q q => by
    obtain ⟨F, ρ, I, ds, ρ', e, q⟩ := vtL q
    refine ⟨F, ρ, I, ds, ρ', e, fun vs H' F' x I' r => ?_⟩
    obtain ⟨F1, es, d, e1, r1, hg, q1⟩ := q vs H' F' x I' r
    unfold gTup at hg
    split at hg
    · rename_i hz
      cases hg
      exact ⟨by rw [r1.length]; exact ln_fit hz, fun p hp => q1.newT e1 r1 p hp⟩
    · cases hg
theorem ve_lst {es : List Expr} {pos} {sa : SA} (h : PA X es (va c sa)) : PE X (.List es pos) (vt c (sL gLst sa)) :=
  pe_of (pe_lst h) fun σ H Q q => by
    obtain ⟨F, ρ, I, ds, ρ', e, q⟩ := vtL q
    refine ⟨F, ρ, I, ds, ρ', e, fun vs H' F' x I' r => ?_⟩
    obtain ⟨F1, es, d, e1, r1, hg, q1⟩ := q vs H' F' x I' r
    unfold gLst at hg
    split at hg
    · rename_i hz
      cases hg
      exact ⟨by rw [r1.length]; exact ln_fit hz, fun p hp => q1.newL e1 r1 p hp⟩
    · cases hg
/-- a built-in function, a built-in class, by its name -/
theorem ve_callB {id : String} {g : GL} {x : Str} {p pos : Pos} {e : Expr} {es : List Expr} {sa : SA} (hc : CaD c X (.builtin id) g) (hm : X.mg x = none) (hv : bootBuiltins x = some (.builtin id)) (ha : PA X (e :: es) (va c sa)) (hg : Gl X x := by rfl)
    (hn : x ≠ "__name__" := by decide) (hdb : (x == ("__debug__" : Str)) = false := by decide)
    (he : starEach (e :: es) X.env = (false, eval e X.env) :: starEach es X.env := by rfl) (hpl : (backTo pos (starEach es X.env)).any (·.1) = false := by rfl) : PE X (.Call (.Name x p) (e :: es) [] pos) (vt c (sL g sa)) :=
  pe_of (pe_callB hc hg hm hv ha hn hdb he hpl) fun _ _ _ q => vtL q
theorem ve_callT {T : String} {g : GL} {x : Str} {p pos : Pos} {e : Expr} {es : List Expr} {sa : SA} (hc : CaD c X (.type T) g) (hm : X.mg x = none) (hv : bootBuiltins x = some (.type T)) (ha : PA X (e :: es) (va c sa)) (hg : Gl X x := by rfl)
    (hn : x ≠ "__name__" := by decide) (hdb : (x == ("__debug__" : Str)) = false := by decide)
    (he : starEach (e :: es) X.env = (false, eval e X.env) :: starEach es X.env := by rfl) (hpl : (backTo pos (starEach es X.env)).any (·.1) = false := by rfl) : PE X (.Call (.Name x p) (e :: es) [] pos) (vt c (sL g sa)) :=
  pe_of (pe_callTy hc hg hm hv ha hn hdb he hpl) fun _ _ _ q => vtL q
end

/-! the built-ins -/
def gLen : GL
  | [.str x] => if x.length ≤ LN then some (.int x.length) else none
  | [.lst xs] => some (.int xs.length)
  | [.tup xs] => some (.int xs.length)
  | [.scr xs] => some (.int xs.length)
  | _ => none
def gInt : GL
  | [.int i] => some (.int i)
  | [.bl k] => some (.int (if k then 1 else 0))
  | _ => none
def gAbs : GL
  | [.int i] => some (.int (if i < 0 then -i else i))
  | _ => none
def toIs : List D → Option (List Int)
  | [] => some []
  | .int i :: r => match toIs r with
    | some is => some (i :: is)
    | none => none
  | _ => none
def strs' : List D → Option (List Str)
  | [] => some []
  | .str i :: r => match strs' r with
    | some is => some (i :: is)
    | none => none
  | _ => none
def imax : List Int → Int
  | [] => 0
  | [a] => a
  | a :: r => max a (imax r)
def imin : List Int → Int
  | [] => 0
  | [a] => a
  | a :: r => min a (imin r)
def isort (l : List Int) : List Int := l.mergeSort fun a b => decide (a ≤ b)
def gMax : GL
  | [.int i, .int j] => some (.int (if j > i then j else i))
  | [.lst xs] => match toIs xs with
    | some (i :: r) => some (.int (imax (i :: r)))
    | _ => none
  | _ => none
def gMin : GL
  | [.int i, .int j] => some (.int (if j < i then j else i))
  | [.lst xs] => match toIs xs with
    | some (i :: r) => some (.int (imin (i :: r)))
    | _ => none
  | _ => none
def gSum : GL
  | [.lst xs] => match toIs xs with
    | some is => some (.int is.sum)
    | _ => none
  | _ => none
def gSorted : GL
  | [.lst xs] => match toIs xs with
    | some is => some (.lst ((isort is).map .int))
    | _ => none
  | _ => none
def gStr : GL
  | [.str x] => some (.str x)
  | _ => none
def gList : GL
  | [.lst xs] => some (.lst xs)
  | [.tup xs] => some (.lst xs)
  | _ => none
def gTuple : GL
  | [.lst xs] => some (.tup xs)
  | [.tup xs] => some (.tup xs)
  | _ => none
theorem ints_reps {G : Gx} {F : Hp} : ∀ {vs : List V} {ds : List D} {is : List Int}, Reps G F vs ds → toIs ds = some is → vs = is.map V.int
  | _, _, _, .nil, h => by unfold toIs at h; cases h; rfl
  | _, _, _, .cons h1 r, h => by
    unfold toIs at h
    split at h
    · rename_i hq; exact absurd hq (by simp)
    · split at h
      · rename_i he _ js hj
        cases h; injection he with e1 e2; subst e1 e2; cases h1; rw [ints_reps r hj]; rfl
      · cases h
    · cases h
theorem reps_ints {G : Gx} {F : Hp} : ∀ is : List Int, Reps G F (is.map V.int) (is.map D.int)
  | [] => .nil
  | i :: r => .cons (.int i) (reps_ints r)
theorem imax_mem : ∀ (i : Int) (r : List Int), imax (i :: r) ∈ i :: r
  | i, [] => by simp [imax]
  | i, j :: r => by
    have := imax_mem j r
    unfold imax
    by_cases h : imax (j :: r) ≤ i
    · rw [Int.max_eq_left h]; exact List.mem_cons_self
    · rw [Int.max_eq_right (by omega)]; exact List.mem_cons_of_mem _ this
theorem imax_le : ∀ (i : Int) (r : List Int) (y : Int), y ∈ i :: r → y ≤ imax (i :: r)
  | i, [], y, h => by simp at h; subst h; simp [imax]
  | i, j :: r, y, h => by
    unfold imax
    rcases List.mem_cons.mp h with h | h
    · subst h; exact Int.le_max_left _ _
    · exact Int.le_trans (imax_le j r y h) (Int.le_max_right _ _)
theorem imin_mem : ∀ (i : Int) (r : List Int), imin (i :: r) ∈ i :: r
  | i, [] => by simp [imin]
  | i, j :: r => by
    have := imin_mem j r
    unfold imin
    by_cases h : i ≤ imin (j :: r)
    · rw [Int.min_eq_left h]; exact List.mem_cons_self
    · rw [Int.min_eq_right (by omega)]; exact List.mem_cons_of_mem _ this
theorem imin_le : ∀ (i : Int) (r : List Int) (y : Int), y ∈ i :: r → imin (i :: r) ≤ y
  | i, [], y, h => by simp at h; subst h; simp [imin]
  | i, j :: r, y, h => by
    unfold imin
    rcases List.mem_cons.mp h with h | h
    · subst h; exact Int.min_le_left _ _
    · exact Int.le_trans (Int.min_le_right _ _) (imin_le j r y h)
theorem isort_perm (l : List Int) : (isort l).Perm l := List.mergeSort_perm _ _
theorem isort_sorted (l : List Int) : (isort l).Pairwise (· ≤ ·) := by
  have := List.pairwise_mergeSort (le := fun a b : Int => decide (a ≤ b)) (fun a b c h1 h2 => by simp at *; omega) (fun a b => by simp; omega) l
  exact this.imp fun h => by simpa using h
theorem isort_uniq {l k : List Int} (h : k.Perm l) (s : k.Pairwise (· ≤ ·)) : k = isort l :=
  List.Perm.eq_of_pairwise (fun _ _ _ _ h1 h2 => Int.le_antisymm h1 h2) s (isort_sorted l) (h.trans (isort_perm l).symm)
section
variable {c : Ctx} {X : Cx}
theorem ca_len (hK : X.K = c.G.K) : CaD c X (.builtin "len") gLen := car_of call_len fun xs H Q ⟨F, ds, d, e, r, hg, q⟩ => by
  unfold gLen at hg
  split at hg
  · split at hg
    · rename_i h
      cases hg
      cases r with
      | cons r1 r2 => cases r2; cases r1; exact ⟨_, _, rfl, ⟨ln_fit h, rfl⟩, q.here e (.int _)⟩
    · cases hg
  · cases hg
    cases r with
    | cons r1 r2 =>
      cases r2
      cases r1 with
      | lst h1 rs => exact ⟨_, _, rfl, .inl ⟨_, .of (e _ _ h1), rfl⟩, by rw [rs.length]; exact q.here e (.int _)⟩
  · cases hg
    cases r with
    | cons r1 r2 =>
      cases r2
      cases r1 with
      | tup h1 rs => exact ⟨_, _, rfl, .inr ⟨_, .of (e _ _ h1), rfl⟩, by rw [rs.length]; exact q.here e (.int _)⟩
  · cases hg
    cases r with
    | cons r1 r2 =>
      cases r2
      cases r1 with
      | scr h1 rs => exact ⟨_, _, rfl, .inl ⟨_, hK ▸ h1.ext e, rfl⟩, by rw [rs.length]; exact q.here e (.int _)⟩
  · cases hg
theorem ca_int : CaD c X (.type "int") gInt := car_of call_int1 fun xs H Q ⟨F, ds, d, e, r, hg, q⟩ => by
  unfold gInt at hg
  split at hg
  · cases hg
    cases r with
    | cons r1 r2 => cases r2; cases r1; exact .inl ⟨_, rfl, q.here e (.int _)⟩
  · cases hg
    cases r with
    | cons r1 r2 => cases r2; cases r1; exact .inr ⟨_, rfl, q.here e (.int _)⟩
  · cases hg
theorem ca_abs : CaD c X (.builtin "abs") gAbs := car_of call_abs fun xs H Q ⟨F, ds, d, e, r, hg, q⟩ => by
  unfold gAbs at hg
  split at hg
  · cases hg
    cases r with
    | cons r1 r2 => cases r2; cases r1; exact ⟨_, rfl, q.here e (.int _)⟩
  · cases hg
theorem lst1 {F H : Hp} {xs : List V} {ds : List D} (e : Ext F H) (r : Reps c.G F xs [.lst ds]) : ∃ a vs, xs = [.ref a] ∧ H a = some (.lst vs) ∧ Reps c.G F vs ds := by
  cases r with
  | cons r1 r2 =>
    cases r2
    cases r1 with
    | lst h1 rs => exact ⟨_, _, rfl, e _ _ h1, rs⟩
theorem tup1 {F H : Hp} {xs : List V} {ds : List D} (e : Ext F H) (r : Reps c.G F xs [.tup ds]) : ∃ a vs, xs = [.ref a] ∧ F a = some (.tup vs) ∧ H a = some (.tup vs) ∧ Reps c.G F vs ds := by
  cases r with
  | cons r1 r2 =>
    cases r2
    cases r1 with
    | tup h1 rs => exact ⟨_, _, rfl, h1, e _ _ h1, rs⟩
theorem ca_max (hc : X.calm = true) : CaD c X (.builtin "max") gMax := car_of ((call_max2 hc).or (cr_max hc)) fun xs H Q ⟨F, ds, d, e, r, hg, q⟩ => by
  unfold gMax at hg
  split at hg
  · cases hg
    cases r with
    | cons r1 r2 =>
      cases r2 with
      | cons r2 r3 => cases r3; cases r1; cases r2; exact .inl ⟨_, _, rfl, q.here e (.int _)⟩
  · split at hg
    · rename_i i r' hi
      cases hg
      obtain ⟨a, vs, h1, h2, rs⟩ := lst1 e r
      refine .inr ⟨a, _, h1, .of (ints_reps rs hi ▸ h2), by simp, fun m m1 m2 => ?_⟩
      have : m = imax (i :: r') := Int.le_antisymm (imax_le _ _ _ m1) (m2 _ (imax_mem _ _))
      subst this
      exact q.here e (.int _)
    · cases hg
  · cases hg
theorem ca_min (hc : X.calm = true) : CaD c X (.builtin "min") gMin := car_of ((call_min2 hc).or (cr_min hc)) fun xs H Q ⟨F, ds, d, e, r, hg, q⟩ => by
  unfold gMin at hg
  split at hg
  · cases hg
    cases r with
    | cons r1 r2 =>
      cases r2 with
      | cons r2 r3 => cases r3; cases r1; cases r2; exact .inl ⟨_, _, rfl, q.here e (.int _)⟩
  · split at hg
    · rename_i i r' hi
      cases hg
      obtain ⟨a, vs, h1, h2, rs⟩ := lst1 e r
      refine .inr ⟨a, _, h1, .of (ints_reps rs hi ▸ h2), by simp, fun m m1 m2 => ?_⟩
      have : m = imin (i :: r') := Int.le_antisymm (m2 _ (imin_mem _ _)) (imin_le _ _ _ m1)
      subst this
      exact q.here e (.int _)
    · cases hg
  · cases hg
theorem ca_sum (hc : X.calm = true) : CaD c X (.builtin "sum") gSum := car_of (cr_sum hc) fun xs H Q ⟨F, ds, d, e, r, hg, q⟩ => by
  unfold gSum at hg
  split at hg
  · split at hg
    · rename_i is hi
      cases hg
      obtain ⟨a, vs, h1, h2, rs⟩ := lst1 e r
      exact ⟨a, _, h1, .of (ints_reps rs hi ▸ h2), q.here e (.int _)⟩
    · cases hg
  · cases hg
theorem ca_sorted : CaD c X (.builtin "sorted") gSorted := car_of cr_sortedI fun xs H Q ⟨F, ds, d, e, r, hg, q⟩ => by
  unfold gSorted at hg
  split at hg
  · split at hg
    · rename_i is hi
      cases hg
      obtain ⟨a, vs, h1, h2, rs⟩ := lst1 e r
      refine ⟨a, _, h1, .of (ints_reps rs hi ▸ h2), fun ns' p hp hs hn => ?_⟩
      have := isort_uniq hp hs
      subst this
      exact q.newL e (reps_ints _) p hn
    · cases hg
  · cases hg
theorem ca_str : CaD c X (.type "str") gStr := car_of SkE.call_str_str fun xs H Q ⟨F, ds, d, e, r, hg, q⟩ => by
  unfold gStr at hg
  split at hg
  · cases hg
    cases r with
    | cons r1 r2 => cases r2; cases r1; exact ⟨_, rfl, q.here e (.str _)⟩
  · cases hg
theorem ca_list : CaD c X (.type "list") gList := car_of call_list_of fun xs H Q ⟨F, ds, d, e, r, hg, q⟩ => by
  unfold gList at hg
  split at hg
  · cases hg
    obtain ⟨a, vs, h1, h2, rs⟩ := lst1 e r
    exact ⟨a, _, h1, .inl (.of h2), fun p hp => q.newL e rs p hp⟩
  · cases hg
    obtain ⟨a, vs, h1, _, h2, rs⟩ := tup1 e r
    exact ⟨a, _, h1, .inr (.of h2), fun p hp => q.newL e rs p hp⟩
  · cases hg
theorem ca_tuple : CaD c X (.type "tuple") gTuple := car_of call_tuple_of fun xs H Q ⟨F, ds, d, e, r, hg, q⟩ => by
  unfold gTuple at hg
  split at hg
  · cases hg
    obtain ⟨a, vs, h1, h2, rs⟩ := lst1 e r
    exact ⟨a, _, h1, .inl ⟨.of h2, fun p hp => q.newT e rs p hp⟩⟩
  · cases hg
    obtain ⟨a, vs, h1, h0, h2, rs⟩ := tup1 e r
    exact ⟨a, _, h1, .inr ⟨.of h2, q.here e (.tup h0 rs)⟩⟩
  · cases hg
end

/-! items and slices -/
def gIx : G2
  | .lst xs, .int k => atI xs k
  | .tup xs, .int k => atI xs k
  | .scr xs, .int k => atI xs k
  | .str z, .int k => if z.length ≤ LN then (atI z.cps.toList k).map fun n => .str ⟨#[n]⟩ else none
  | _, _ => none
theorem Reps.atI {G : Gx} {F : Hp} {vs : List V} {ds : List D} {k : Int} {d : D} (r : Reps G F vs ds) (h : L2.atI ds k = some d) : ∃ v, L2.atI vs k = some v ∧ Rep G F v d := by
  unfold L2.atI at h ⊢
  rw [r.length]
  cases e : ixN ds.length k with
  | none => rw [e] at h; cases h
  | some j => rw [e] at h; exact r.get (i := j) h
section
variable {c : Ctx} {X : Cx}
theorem ix_ok (hK : X.K = c.G.K) : IxR X (rD c.G gIx) := by
  intro value slice pins s σ H x y v u Q I rx ry h hs
  refine ix_seq value slice pins s σ H x y v u Q I rx ry ?_ hs
  obtain ⟨F, a, b, d, e, ra, rb, hg, q⟩ := h
  unfold gIx at hg
  split at hg
  · cases ra with
    | lst h1 rs =>
      cases rb
      obtain ⟨v, h2, h3⟩ := rs.atI hg
      exact .inl ⟨_, _, _, _, rfl, rfl, .of (e _ _ h1), h2, q.here e h3⟩
  · cases ra with
    | tup h1 rs =>
      cases rb
      obtain ⟨v, h2, h3⟩ := rs.atI hg
      exact .inr (.inl ⟨_, _, _, _, rfl, rfl, .of (e _ _ h1), h2, q.here e h3⟩)
  · cases ra with
    | scr h1 rs =>
      cases rb
      obtain ⟨v, h2, h3⟩ := rs.atI hg
      exact .inl ⟨_, _, _, _, rfl, rfl, hK ▸ h1.ext e, h2, q.here e h3⟩
  · split at hg
    · rename_i z k hz
      cases ra; cases rb
      cases h2 : L2.atI z.cps.toList k with
      | none => rw [h2] at hg; cases hg
      | some n =>
        rw [h2] at hg
        cases hg
        exact .inr (.inr ⟨_, _, _, rfl, rfl, ln_fit hz, h2, q.here e (.str _)⟩)
    · cases hg
  · cases hg
theorem ve_ix {a b : Expr} {sa sb : SE} {pos} (hK : X.K = c.G.K) (ha : PE X a (vt c sa)) (hb : PE X b (vt c sb)) (hs : PlainIx b := by exact fun _ _ => rfl) : PE X (.Subscript a b pos) (vt c (s2 gIx sa sb)) :=
  pe_of (pe_ix (ix_ok hK) ha hb hs) fun _ _ _ h => vt2 h
/-- what a slot of one's own holds -/
def conM (ρ : Rho) (i : Nat) : Option (List D) := match ρ[i]? with
  | some (.own xs) => some xs
  | some (.bor xs) => some xs
  | _ => none
theorem Ok.own {F H : Hp} {σ : L2.St} {ρ : Rho} (I : Ok c F H σ ρ) {i : Nat} {xs : List D} (h : conM ρ i = some xs) :
    ∃ p vs, σ[i]? = some (some (V.ref p)) ∧ H p = some (.lst vs) ∧ F p = none ∧ Reps c.G F vs xs := by
  unfold conM at h
  split at h
  · rename_i ys hy
    cases h
    obtain ⟨ov, h1, h2⟩ := I.sl i _ hy
    cases ov with
    | none => exact h2.elim
    | some v =>
      obtain ⟨p, e, _, hf, vs, hh, r⟩ := h2
      subst e
      exact ⟨p, vs, h1, hh, hf, r⟩
  · rename_i ys hy
    cases h
    obtain ⟨ov, h1, h2⟩ := I.sl i _ hy
    cases ov with
    | none => exact h2.elim
    | some v =>
      obtain ⟨p, e, _, hf, vs, hh, r⟩ := h2
      subst e
      exact ⟨p, vs, h1, hh, hf, r⟩
  · cases h
/-- an item of a list of one's own -/
def sIxM (i : Nat) (b : SE) : SE := fun ρ => match conM ρ i with
  | none => none
  | some _ => match b ρ with
    | some (.int k, ρ1) => match conM ρ1 i with
      | some xs => match L2.atI xs k with
        | some d => some (d, ρ1)
        | none => none
      | none => none
    | _ => none
theorem ve_ixM {a b : Expr} {i : Nat} {sb : SE} {pos} (ha : PE X a (tVar i)) (hb : PE X b (vt c sb)) (hs : PlainIx b := by exact fun _ _ => rfl) : PE X (.Subscript a b pos) (vt c (sIxM i sb)) := by
  refine pe_of (pe_ix ix_list ha hb hs) fun σ H Q ⟨F, ρ, I, d, ρ', e, q⟩ => ?_
  unfold sIxM at e
  split at e
  · cases e
  · rename_i xs0 e0
    obtain ⟨p, vs0, h0, _⟩ := I.own e0
    split at e
    · rename_i k ρ1 e1
      split at e
      · rename_i xs e2
        split at e
        · rename_i d' e3
          cases e
          refine ⟨_, h0, F, ρ, I, _, ρ', e1, fun w H1 F1 x1 I1 r1 => ?_⟩
          obtain ⟨p', vs, h1, h2, h3, h4⟩ := I1.own e2
          rw [h0] at h1
          cases h1
          cases r1
          obtain ⟨u, g1, g2⟩ := h4.atI e3
          exact ⟨_, vs, k, u, rfl, rfl, .of h2, g1, q u H1 F1 x1 I1 g2⟩
        · cases e
      · cases e
    · cases e
end
end VS

set_option Elab.async false
set_option linter.all false
set_option maxRecDepth 100000
set_option maxHeartbeats 4000000
namespace VS
open PySem PySem.Spec PyProof.Rows L2

/-! slices -/
abbrev SO := Rho → Option (Option Int × Rho)
def vo (c : Ctx) (s : SO) : TO := fun σ H Q => ∃ F ρ, Ok c F H σ ρ ∧ ∃ o ρ', s ρ = some (o, ρ') ∧ ∀ H' F', Ext F F' → Ok c F' H' σ ρ' → Q o H'
def oN : SO := fun ρ => some (none, ρ)
def oS (a : SE) : SO := fun ρ => match a ρ with
  | some (.int i, ρ') => some (some i, ρ')
  | _ => none
def cutD (xs : List D) (lo hi : Option Int) : List D := (xs.drop (HT.sIx xs.length 0 lo)).take (HT.sIx xs.length xs.length hi - HT.sIx xs.length 0 lo)
def gSl : D → Option Int → Option Int → Option D
  | .lst xs, lo, hi => some (.lst (cutD xs lo hi))
  | .tup xs, lo, hi => some (.tup (cutD xs lo hi))
  | _, _, _ => none
def sSl (a : SE) (lo hi : SO) : SE := fun ρ => match a ρ with
  | some (x, ρ1) => match lo ρ1 with
    | some (l, ρ2) => match hi ρ2 with
      | some (h, ρ3) => match gSl x l h with
        | some d => some (d, ρ3)
        | none => none
      | none => none
    | none => none
  | none => none
section
variable {c : Ctx} {X : Cx}
theorem vo_none : PO X none (vo c oN) := ⟨fun pins s σ H Q I ⟨F, ρ, I', o, ρ', e, q⟩ => by
  cases e
  exact po_none.run pins s σ H Q I (q H F Ext.rfl' I')⟩
theorem vo_some {e : Expr} {a : SE} (h : PE X e (vt c a)) : PO X (some e) (vo c (oS a)) := ⟨fun pins s σ H Q I ⟨F, ρ, I', o, ρ', e, q⟩ => by
  refine (po_some h).run pins s σ H Q I ?_
  unfold oS at e
  split at e
  · rename_i i ρ1 e1
    cases e
    exact ⟨F, ρ, I', _, ρ', e1, fun v H' F' x I1 r => by cases r; exact ⟨_, rfl, q H' F' x I1⟩⟩
  · cases e⟩
theorem Reps.cut {G : Gx} {F : Hp} {vs : List V} {ds : List D} (r : Reps G F vs ds) (lo hi : Option Int) : Reps G F (cutV vs lo hi) (cutD ds lo hi) := by
  unfold cutV cutD
  rw [r.length]
  exact (r.drop _).take _
theorem cut_whole {vs : List V} {lo hi : Option Int} (h1 : HT.sIx vs.length 0 lo = 0) (h2 : HT.sIx vs.length vs.length hi = vs.length) : cutV vs lo hi = vs := by
  unfold cutV
  rw [h1, h2]
  simp
theorem ve_slice {a : Expr} {lo hi : Option Expr} {sa : SE} {sl sh : SO} {p2 pos} (ha : PE X a (vt c sa)) (hl : PO X lo (vo c sl)) (hh : PO X hi (vo c sh)) : PE X (.Subscript a (.Slice lo hi none p2) pos) (vt c (sSl sa sl sh)) := by
  refine pe_of (pe_slice (sl_list.or sl_tupA) ha hl hh) fun σ H Q ⟨F, ρ, I, d, ρ', e, q⟩ => ?_
  unfold sSl at e
  split at e
  · rename_i x ρ1 e1
    split at e
    · rename_i l ρ2 e2
      split at e
      · rename_i h ρ3 e3
        split at e
        · rename_i d' e4
          cases e
          refine ⟨F, ρ, I, x, ρ1, e1, fun v H1 F1 x1 I1 r1 => ⟨F1, ρ1, I1, l, ρ2, e2, fun H2 F2 x2 I2 => ⟨F2, ρ2, I2, h, ρ', e3, fun H3 F3 x3 I3 => ?_⟩⟩⟩
          have r1' := (r1.ext x2).ext x3
          have q' : Aft c.G F3 H3 d Q := fun v H' F' g r => q v H' F' (((x1.trans x2).trans x3).trans g.f) (I3.grow g) r
          unfold gSl at e4
          split at e4
          · cases e4
            cases r1' with
            | lst h1 rs => exact .inl ⟨_, _, rfl, .of (I3.fh _ _ h1), fun p hp => q'.newL I3.fh (rs.cut _ _) p hp⟩
          · cases e4
            cases r1' with
            | tup h1 rs =>
              refine .inr ⟨_, _, rfl, .of (I3.fh _ _ h1), fun ⟨w1, w2⟩ => ?_, fun _ p hp => q'.newT I3.fh (rs.cut _ _) p hp⟩
              have rc := rs.cut l h
              rw [cut_whole w1 w2] at rc
              exact q'.here I3.fh (.tup h1 rc)
          · cases e4
        · cases e
      · cases e
    · cases e
  · cases e
end

/-! fields -/
def look (f : Str) : List Str → Option Nat
  | [] => none
  | g :: r => if f = g then some 0 else (look f r).map (· + 1)
theorem lookup_of {f : Str} : ∀ {fs : List (Str × V)} {j : Nat}, look f (fs.map (·.1)) = some j → fs.lookup f = (fs.map (·.2))[j]?
  | [], j, h => by simp [look] at h
  | (g, v) :: r, j, h => by
    simp only [List.map_cons, look] at h
    by_cases e : f = g
    · rw [if_pos e] at h; cases h
      have hb : (f == g) = true := beq_iff_eq.mpr e
      simp [List.lookup, hb]
    · rw [if_neg e] at h
      have hb : (f == g) = false := beq_eq_false_iff_ne.mpr e
      cases h2 : look f (r.map (·.1)) with
      | none => rw [h2] at h; cases h
      | some i =>
        rw [h2] at h; cases h
        have := lookup_of h2
        simp only [List.lookup, hb, List.map_cons, List.getElem?_cons_succ]
        exact this
def gFld (k j : Nat) : G1
  | .ins k' ds => if k' = k then ds[j]? else none
  | _ => none
section
variable {c : Ctx} {X : Cx}
theorem ve_fld {e : Expr} {f : Str} {pos : Pos} {s : SE} (k j : Nat) (he : PE X e (vt c s)) (cl : Cls X.K (c.G.cls k)) (n : NoAttr X.K (c.G.cls k) f) (hj : look f (c.G.fld k) = some j) (hb : attributeBase e f X.env (eval e X.env) = eval e X.env := by rfl) :
    PE X (.Attribute e f pos) (vt c (s1 (gFld k j) s)) := by
  refine pe_of (pe_fld he hb) fun σ H Q ⟨F, ρ, I, d, ρ', e, q⟩ => ?_
  obtain ⟨x, e1, e2⟩ := s1_inv e
  unfold gFld at e2
  split at e2
  · rename_i k' ds
    split at e2
    · rename_i hk
      subst hk
      refine ⟨F, ρ, I, _, ρ', e1, fun v H1 F1 x1 I1 r1 => ?_⟩
      cases r1 with
      | ins h1 hn rs =>
        obtain ⟨u, g1, g2⟩ := rs.get e2
        refine ⟨_, _, _, _, u, rfl, I1.fh _ _ h1, cl, n, ?_, q u H1 F1 x1 I1 g2⟩
        rw [lookup_of (j := j) (by rw [hn]; exact hj)]
        exact g1
    · cases e2
  · cases e2
end

/-! calls of the text's own defs -/
abbrev Mir := List Sl → Option (D × List D)
inductive ArgOk (G : Gx) (F H : Hp) : List Addr → List V → List Sl → Prop
  | vals {vs : List V} {ds : List D} : Reps G F vs ds → ArgOk G F H [] vs (ds.map .val)
  | bor {p : Addr} {vs us : List V} {xs ds : List D} : F p = none → H p = some (.lst us) → Reps G F us xs → Reps G F vs ds → ArgOk G F H [p] (.ref p :: vs) (.bor xs :: ds.map .val)
  | slf {p dx : Addr} {k : Nat} {vs : List V} {ds : List D} : F p = none → H p = some (.ins (G.cls k) dx []) → Reps G F vs ds → ArgOk G F H [p] (.ref p :: vs) (.slf k [] :: ds.map .val)
  | lam {v : V} {d : D} {f : Addr} {h : D → D → Option D} : Rep G F v d → LamAt G F H f h → ArgOk G F H [] [v, .ref f] [.val d, .lam h]
/-- what a borrowed list is behind the call -/
def Out (G : Gx) (F H : Hp) (B : List Addr) (sl : List Sl) (out : List D) : Prop := ∀ p ∈ B, F p = none ∧ match sl with
  | .bor _ :: _ => ∃ us, H p = some (.lst us) ∧ Reps G F us out
  | .slf k _ :: _ => ∃ dx fs, H p = some (.ins (G.cls k) dx fs) ∧ (∃ n, fs.map (·.1) = (G.fld k).take n) ∧ Reps G F (fs.map (·.2)) out
  | _ => False
theorem nt_lst {xs : List V} : ∀ ps, HO.lst xs ≠ .tbl ps := fun ps z => by cases z
theorem nt_ins {a b : Addr} {fs : List (Str × V)} : ∀ ps, HO.ins a b fs ≠ .tbl ps := fun ps z => by cases z
theorem nt_raw {w : World} {p : Addr} {xs : List DEnt} : ∀ ps, rawO w p xs ≠ .tbl ps := fun ps z => by unfold rawO at z; cases z
theorem nt_dK {kvs : List (Key × V)} : ∀ ps, HO.dK kvs ≠ .tbl ps := fun ps z => by cases z
theorem DicAt.keep {w : World} {b : Bool} {F F' H H' : Hp} {p : Addr} {ks : List NestedKey} {vs : List V} (e : Ext F F') (h : ∀ o, H p = some o → (∀ ps, o ≠ .tbl ps) → H' p = some o) (d : DicAt w b none F H p ks vs) : DicAt w b none F' H' p ks vs := by
  cases b with
  | true => obtain ⟨xs, d⟩ := d; exact ⟨xs, d.ext e fun z => h _ z nt_raw⟩
  | false => obtain ⟨kvs, d, r⟩ := d; exact ⟨kvs, h _ d nt_dK, r⟩
/-- THE PROMISE: the mirror's value, by data -/
def spV (G : Gx) (n : Nat) (m : Mir) : Sp := fun vs H Q _ => ∃ F B sl, Ext F H ∧ TbOk G.T F H ∧ ArgOk G F H B vs sl ∧ sl.length = n ∧ ∃ d out, m sl = some (d, out) ∧
  ∀ v H' F', Keep G.T B F H F' H' → Out G F' H' B sl out → Rep G F' v d → Q v H'
/-- a def as its callers know it -/
structure Cal (P : Program) (w : World) (G : Gx) (mg : Str → Option Value) (base : Heap) (x : Str) (k n : Nat) (m : Mir) : Prop where
  ex : ∃ (f : Addr) (fd : FuncData) (ps : List Str), mg x = some (.ref f) ∧ PySem.W.keepIn G.K (.ref f) = true ∧ Binds G.K fd ps [] ∧ FnOk P w G.K mg base CX0 k f fd ps (spV G n m)
def sCall (n : Nat) (m : Mir) (a : SA) : SE := fun ρ => match a ρ with
  | some (xs, ρ1) => if xs.length = n then match m (xs.map .val) with
    | some (d, _) => some (d, ρ1)
    | none => none
    else none
  | none => none
/-- the first argument a list of one's own, which the callee may change -/
def setM (ρ : Rho) (i : Nat) (xs : List D) : Rho := match ρ[i]? with
  | some (.own _) => ρ.set i (.own xs)
  | some (.bor _) => ρ.set i (.bor xs)
  | _ => ρ
def sCallM (n : Nat) (m : Mir) (i : Nat) (a : SA) : SE := fun ρ => match conM ρ i with
  | none => none
  | some _ => match a ρ with
    | some (xs, ρ1) => if xs.length + 1 = n then match conM ρ1 i with
      | some ys => match m (.bor ys :: xs.map .val) with
        | some (d, out) => some (d, setM ρ1 i out)
        | none => none
      | none => none
      else none
    | none => none
theorem ArgOk.length {G : Gx} {F H : Hp} {B : List Addr} {vs : List V} {sl : List Sl} (a : ArgOk G F H B vs sl) : vs.length = sl.length := by
  cases a with
  | vals r => simp [r.length]
  | bor _ _ _ r => simp [r.length]
  | slf _ _ r => simp [r.length]
  | lam _ _ => rfl
/-- a callee has changed what is none of this frame's -/
theorem Ok.kept {c : Ctx} {F H F' H' : Hp} {σ : L2.St} {ρ : Rho} {B : List Addr} (I : Ok c F H σ ρ) (k : Keep c.G.T B F H F' H') (hB : ∀ q ∈ B, c.H0 q = none) (hL : ∀ q ∈ B, ∀ o, H q = some o → ¬ LamL o) (ap : ∀ (j : Nat) (s : Sl) (q : Addr), ρ[j]? = some s → s.mut = true → σ[j]? = some (some (V.ref q)) → q ∉ B) : Ok c F' H' σ ρ := by
  refine ⟨I.len, I.f0.trans k.f, k.fh, fun q o h1 h2 h3 => k.h q o (I.fr q o h1 h2 h3) (fun z => by rw [hB q z] at h1; cases h1) h3, fun q o h1 => ?_, fun q o h1 h2 => ?_, fun i s hs => ?_, I.ap, I.hb, k.t I.tb⟩
  · obtain ⟨o', e⟩ := I.al q o h1
    exact k.a q o' e
  · obtain ⟨o', e⟩ := I.al q o h1
    exact k.n q o' e (I.n0 q o h1 h2)
  · obtain ⟨ov, h1, h2⟩ := I.sl i s hs
    refine ⟨ov, h1, ?_⟩
    cases s with
    | no => cases ov <;> trivial
    | val d =>
      cases ov with
      | none => exact h2
      | some v => exact Rep.ext k.f h2
    | lam g0 =>
      cases ov with
      | none => exact h2
      | some v => exact (let ⟨f1, z1, z2⟩ := h2; ⟨f1, z1, z2.move k.f fun q0 u0 e1 e2 => ⟨k.h q0 u0 e1 (fun z => hL q0 z u0 e1 e2) e2.nt, fun e3 => k.n q0 u0 e1 e3⟩⟩)
    | own xs =>
      cases ov with
      | none => exact h2
      | some v =>
        obtain ⟨q, e, a1, a2, vs, a3, a4⟩ := h2
        exact ⟨q, e, a1, k.n q _ a3 a2, vs, k.h q _ a3 (ap i _ q hs rfl (by rw [h1, e])) nt_lst, a4.ext k.f⟩
    | bor xs =>
      cases ov with
      | none => exact h2
      | some v =>
        obtain ⟨q, e, a1, a2, vs, a3, a4⟩ := h2
        exact ⟨q, e, a1, k.n q _ a3 a2, vs, k.h q _ a3 (ap i _ q hs rfl (by rw [h1, e])) nt_lst, a4.ext k.f⟩
    | slf z xs =>
      cases ov with
      | none => exact h2
      | some v =>
        obtain ⟨q, e, a1, a2, dx, fs, a3, a4, a5⟩ := h2
        exact ⟨q, e, a1, k.n q _ a3 a2, dx, fs, k.h q _ a3 (ap i _ q hs rfl (by rw [h1, e])) nt_ins, a4, a5.ext k.f⟩
    | dic b ks xs =>
      cases ov with
      | none => exact h2
      | some v =>
        obtain ⟨q, e, a1, a2, vs, a3, a4⟩ := h2
        obtain ⟨o, e3⟩ := DicAt.ob a3
        exact ⟨q, e, a1, k.n q _ e3 a2, vs, DicAt.keep k.f (fun o' z nt => k.h q _ z (ap i _ q hs rfl (by rw [h1, e])) nt) a3, a4.ext k.f⟩
theorem keep_lift {c : Ctx} {F H F' H' : Hp} {σ : L2.St} {ρ : Rho} (I : Ok c F H σ ρ) (k : Keep c.G.T [] F H F' H') : Ok c F' H' σ ρ := I.kept k (fun q h => absurd h (by simp)) (fun q h => absurd h (by simp)) fun j s q _ _ _ => by simp
theorem out_nil {G : Gx} {F H : Hp} {sl : List Sl} {out : List D} : Out G F H [] sl out := fun p h => absurd h (by simp)
/-- a list of one's own has been changed by a callee: the rest of the frame stands -/
theorem Ok.lent {c : Ctx} {F H F' H' : Hp} {σ : L2.St} {ρ : Rho} {i : Nat} {xs ys : List D} {p : Addr} {us : List V} (I : Ok c F H σ ρ) (hx : conM ρ i = some xs) (hσ : σ[i]? = some (some (V.ref p)))
    (k : Keep c.G.T [p] F H F' H') (hf : F' p = none) (hh : H' p = some (.lst us)) (r : Reps c.G F' us ys) : Ok c F' H' σ (setM ρ i ys) := by
  have hi : i < ρ.length := by
    unfold conM at hx
    cases e : ρ[i]? with
    | none => rw [e] at hx; cases hx
    | some s => exact (List.getElem?_eq_some_iff.mp e).1
  have hL : ∀ q ∈ [p], ∀ o, H q = some o → ¬ LamL o := fun q hq o e => by
    obtain ⟨p', us', g1, g2, _⟩ := I.own hx
    rw [hσ] at g1; cases g1
    rw [List.mem_singleton.mp hq, g2] at e
    cases e
    exact nl_lst
  have sm : ∃ s0 s1, ρ[i]? = some s0 ∧ s0.mut = true ∧ s1.mut = true ∧ setM ρ i ys = ρ.set i s1 ∧ (∀ ov, SlOk c F H ov s0 → SlOk c F' H' (some (V.ref p)) s1 ∨ ov ≠ some (V.ref p)) ∧ (p ∈ c.B ∨ c.H0 p = none) := by
    unfold conM at hx
    split at hx
    · rename_i zs hz
      obtain ⟨ov, h1, h2⟩ := I.sl i _ hz
      rw [hσ] at h1; cases h1
      obtain ⟨p', e, h0, _⟩ := h2
      cases e
      exact ⟨_, .own ys, hz, rfl, rfl, by unfold setM; rw [hz], fun ov h => .inl ⟨p, rfl, h0, hf, us, hh, r⟩, .inr h0⟩
    · rename_i zs hz
      obtain ⟨ov, h1, h2⟩ := I.sl i _ hz
      rw [hσ] at h1; cases h1
      obtain ⟨p', e, h0, _⟩ := h2
      cases e
      exact ⟨_, .bor ys, hz, rfl, rfl, by unfold setM; rw [hz], fun ov h => .inl ⟨p, rfl, h0, hf, us, hh, r⟩, .inl h0⟩
    · cases hx
  obtain ⟨s0, s1, g1, g2, g3, g4, g5, g6⟩ := sm
  rw [g4]
  refine ⟨by rw [List.length_set]; exact I.len, I.f0.trans k.f, k.fh, fun q o h1 h2 h3 => ?_, fun q o h1 => ?_, fun q o h1 h2 => ?_, fun j s hs => ?_, fun a b s t pa qb ha hb ms mt => ?_, I.hb, k.t I.tb⟩
  · refine k.h q o (I.fr q o h1 h2 h3) (fun z => ?_) h3
    have z : q = p := by simpa using z
    subst z
    rcases g6 with g6 | g6
    · exact h2 g6
    · rw [g6] at h1; cases h1
  · obtain ⟨o', e⟩ := I.al q o h1
    exact k.a q o' e
  · obtain ⟨o', e⟩ := I.al q o h1
    exact k.n q o' e (I.n0 q o h1 h2)
  · by_cases hj : i = j
    · subst hj
      rw [List.getElem?_set_self hi] at hs
      cases hs
      obtain ⟨ov, h1, h2⟩ := I.sl i _ g1
      rw [hσ] at h1; cases h1
      rcases g5 _ h2 with z | z
      · exact ⟨_, hσ, z⟩
      · exact absurd rfl z
    · rw [List.getElem?_set_ne hj] at hs
      obtain ⟨ov, h1, h2⟩ := I.sl j s hs
      refine ⟨ov, h1, ?_⟩
      have ne : ∀ q, s.mut = true → ov = some (V.ref q) → q ∉ [p] := fun q hm e z => by
        have z : q = p := by simpa using z
        exact hj (I.ap i j _ _ p q g1 hs g2 hm hσ (by rw [h1, e]) z.symm)
      cases s with
      | no => cases ov <;> trivial
      | val d =>
        cases ov with
        | none => exact h2
        | some v => exact Rep.ext k.f h2
      | lam g0 =>
        cases ov with
        | none => exact h2
        | some v => exact (let ⟨f1, z1, z2⟩ := h2; ⟨f1, z1, z2.move k.f fun q0 u0 e1 e2 => ⟨k.h q0 u0 e1 (fun z => hL q0 z u0 e1 e2) e2.nt, fun e3 => k.n q0 u0 e1 e3⟩⟩)
      | own zs =>
        cases ov with
        | none => exact h2
        | some v =>
          obtain ⟨q, e, a1, a2, ws, a3, a4⟩ := h2
          exact ⟨q, e, a1, k.n q _ a3 a2, ws, k.h q _ a3 (ne q rfl (by rw [e])) nt_lst, a4.ext k.f⟩
      | bor zs =>
        cases ov with
        | none => exact h2
        | some v =>
          obtain ⟨q, e, a1, a2, ws, a3, a4⟩ := h2
          exact ⟨q, e, a1, k.n q _ a3 a2, ws, k.h q _ a3 (ne q rfl (by rw [e])) nt_lst, a4.ext k.f⟩
      | slf z zs =>
        cases ov with
        | none => exact h2
        | some v =>
          obtain ⟨q, e, a1, a2, dx, fs, a3, a4, a5⟩ := h2
          exact ⟨q, e, a1, k.n q _ a3 a2, dx, fs, k.h q _ a3 (ne q rfl (by rw [e])) nt_ins, a4, a5.ext k.f⟩
      | dic bb ks zs =>
        cases ov with
        | none => exact h2
        | some v =>
          obtain ⟨q, e, a1, a2, ws, a3, a4⟩ := h2
          obtain ⟨o, e3⟩ := DicAt.ob a3
          exact ⟨q, e, a1, k.n q _ e3 a2, ws, DicAt.keep k.f (fun o' z nt => k.h q _ z (ne q rfl (by rw [e])) nt) a3, a4.ext k.f⟩
  · have mu : ∀ (j : Nat) s, (ρ.set i s1)[j]? = some s → s.mut = true → ∃ s', ρ[j]? = some s' ∧ s'.mut = true := fun j s hs hm => by
      by_cases hj : i = j
      · subst hj; exact ⟨s0, g1, g2⟩
      · rw [List.getElem?_set_ne hj] at hs; exact ⟨s, hs, hm⟩
    obtain ⟨s', hs', ms'⟩ := mu a s ha ms
    obtain ⟨t', ht', mt'⟩ := mu b t hb mt
    exact I.ap a b s' t' pa qb hs' ht' ms' mt'
section
variable {c : Ctx} {X : Cx} {x : Str} {p pos : Pos} {e : Expr} {es : List Expr} {k n : Nat} {m : Mir}
theorem call_w {sa : SA} (σ : L2.St) (H : Hp) (Q : VK) (h : vt c (sCall n m sa) σ H Q) : tCall (spV c.G n m) [] E0 (va c sa) σ H Q := by
  obtain ⟨F, ρ, I, d, ρ', e, q⟩ := h
  unfold sCall at e
  split at e
  · rename_i xs ρ1 e1
    split at e
    · rename_i hn
      split at e
      · rename_i d' out e2
        cases e
        refine ⟨F, ρ, I, xs, ρ', e1, fun vs H1 F1 x1 I1 r1 => ?_⟩
        show spV c.G n m (vs ++ []) H1 Q E0
        rw [List.append_nil]
        exact ⟨F1, [], _, I1.fh, I1.tb, ArgOk.vals r1, by rw [List.length_map]; exact hn, d, out, e2, fun v H2 F2 k2 _ r2 => q v H2 F2 (x1.trans k2.f) (keep_lift I1 k2) r2⟩
      · cases e
    · cases e
  · cases e
theorem ve_call {sa : SA} (C : Cal X.prog X.w c.G X.mg X.base x k n m) (hK : X.K = c.G.K) (hr : Room k X.A) (ha : PA X (e :: es) (va c sa)) (hg : Gl X x := by rfl) (hdb : (x == ("__debug__" : Str)) = false := by decide)
    (he : starEach (e :: es) X.env = (false, eval e X.env) :: starEach es X.env := by rfl) (hpl : (backTo pos (starEach es X.env)).any (·.1) = false := by rfl) : PE X (.Call (.Name x p) (e :: es) [] pos) (vt c (sCall n m sa)) := by
  obtain ⟨f, fd, ps, hm, hk, hb, hF⟩ := C.ex
  rw [← hK] at hk hb hF
  exact pe_of (pe_call hF hr hg hm hk hb .nil pass0 ha hdb he hpl) call_w
theorem callM_w {sa : SA} {i : Nat} (σ : L2.St) (H : Hp) (Q : VK) (h : vt c (sCallM n m i sa) σ H Q) : tCall (spV c.G n m) [] E0 (tCons (tVar i) (va c sa)) σ H Q := by
  obtain ⟨F, ρ, I, d, ρ', e, q⟩ := h
  unfold sCallM at e
  split at e
  · cases e
  · rename_i ys0 e0
    obtain ⟨p, us0, h0, _⟩ := I.own e0
    split at e
    · rename_i xs ρ1 e1
      split at e
      · rename_i hn
        split at e
        · rename_i ys e3
          split at e
          · rename_i d' out e2
            cases e
            refine ⟨_, h0, F, ρ, I, xs, ρ1, e1, fun vs H1 F1 x1 I1 r1 => ?_⟩
            show spV c.G n m ((V.ref p :: vs) ++ []) H1 Q E0
            rw [List.append_nil]
            obtain ⟨p', us, h1, h2, h3, h4⟩ := I1.own e3
            rw [h0] at h1; cases h1
            refine ⟨F1, [p], _, I1.fh, I1.tb, .bor h3 h2 h4 r1, by simpa using hn, d, out, e2, fun v H2 F2 k2 o2 r2 => ?_⟩
            obtain ⟨z1, us2, z2, z3⟩ := o2 p (by simp)
            exact q v H2 F2 (x1.trans k2.f) (I1.lent e3 h0 k2 z1 z2 z3) r2
          · cases e
        · cases e
      · cases e
    · cases e
theorem ve_callM {sa : SA} {i : Nat} (C : Cal X.prog X.w c.G X.mg X.base x k n m) (hK : X.K = c.G.K) (hr : Room k X.A) (h1 : PE X e (tVar i)) (ha : PA X es (va c sa)) (hg : Gl X x := by rfl) (hdb : (x == ("__debug__" : Str)) = false := by decide)
    (he : starEach (e :: es) X.env = (false, eval e X.env) :: starEach es X.env := by rfl) (hpl : (backTo pos (starEach es X.env)).any (·.1) = false := by rfl) : PE X (.Call (.Name x p) (e :: es) [] pos) (vt c (sCallM n m i sa)) := by
  obtain ⟨f, fd, ps, hm, hk, hb, hF⟩ := C.ex
  rw [← hK] at hk hb hF
  exact pe_of (pe_call hF hr hg hm hk hb .nil pass0 (pa_cons h1 ha he) hdb he hpl) callM_w
end
end VS

set_option Elab.async false
set_option linter.all false
set_option maxRecDepth 100000
set_option maxHeartbeats 4000000
namespace VS
open PySem PySem.Spec PyProof.Rows L2

/-! statements -/
inductive Fl where
  | nx | rt (d : D) | bk | ct | rm (xs : List D)
abbrev SS := Rho → Option (Fl × Rho)
def vEnd (c : Ctx) (E : Ends) (F : Hp) (fl : Fl) (ρ' : Rho) : Prop := match fl with
  | .nx => ∀ σ H F', Ext F F' → Ok c F' H σ ρ' → E.nx σ H
  | .rt d => ∀ v σ H F', Ext F F' → Ok c F' H σ ρ' → Rep c.G F' v d → E.rt v H
  | .bk => ∀ σ H F', Ext F F' → Ok c F' H σ ρ' → E.bk σ H
  | .ct => ∀ σ H F', Ext F F' → Ok c F' H σ ρ' → E.ct σ H
  | .rm xs => ∀ p us σ H F', Ext F F' → Ok c F' H σ ρ' → c.H0 p = none → F' p = none → H p = some (.lst us) → Reps c.G F' us xs → E.rt (.ref p) H
theorem vEnd.ext {c : Ctx} {E : Ends} {F F' : Hp} {fl : Fl} {ρ : Rho} (h : vEnd c E F fl ρ) (e : Ext F F') : vEnd c E F' fl ρ := by
  cases fl with
  | nx => exact fun σ H F1 x I => h σ H F1 (e.trans x) I
  | rt d => exact fun v σ H F1 x I r => h v σ H F1 (e.trans x) I r
  | bk => exact fun σ H F1 x I => h σ H F1 (e.trans x) I
  | ct => exact fun σ H F1 x I => h σ H F1 (e.trans x) I
  | rm xs => exact fun p us σ H F1 x I a b c' r => h p us σ H F1 (e.trans x) I a b c' r
def vs (c : Ctx) (s : SS) : TS := fun E σ H => ∃ F ρ, Ok c F H σ ρ ∧ ∃ fl ρ', s ρ = some (fl, ρ') ∧ vEnd c E F fl ρ'
def kN : SS := fun ρ => some (.nx, ρ)
def kS (a b : SS) : SS := fun ρ => match a ρ with
  | some (.nx, ρ1) => b ρ1
  | r => r
def kRet (e : SE) : SS := fun ρ => match e ρ with
  | some (d, ρ1) => some (.rt d, ρ1)
  | none => none
def kIf (t : SB) (a b : SS) : SS := fun ρ => match t ρ with
  | some (true, ρ1) => a ρ1
  | some (false, ρ1) => b ρ1
  | none => none
def kNever : SS := fun _ => none
/-- name = value -/
def kSet (i : Nat) (e : SE) : SS := fun ρ => match e ρ with
  | some (d, ρ1) => some (.nx, ρ1.set i (.val d))
  | none => none
def kDrop (e : SE) : SS := fun ρ => match e ρ with
  | some (_, ρ1) => some (.nx, ρ1)
  | none => none
section
variable {c : Ctx} {X : Cx}
theorem vs_nil : PSs X [] (vs c kN) := pss_of pss_nil fun σ H E ⟨F, ρ, I, fl, ρ', e, q⟩ => by cases e; exact q σ H F Ext.rfl' I
theorem seq_w {a b : SS} (σ : L2.St) (H : Hp) (E : Ends) (h : vs c (kS a b) E σ H) : tSeq (vs c a) (vs c b) E σ H := by
  obtain ⟨F, ρ, I, fl, ρ', e, q⟩ := h
  unfold kS at e
  split at e
  · rename_i ρ1 e1
    exact ⟨F, ρ, I, .nx, ρ1, e1, fun σ1 H1 F1 x1 I1 => ⟨F1, ρ1, I1, fl, ρ', e, q.ext x1⟩⟩
  · rename_i e0
    refine ⟨F, ρ, I, fl, ρ', e, ?_⟩
    cases fl with
    | nx => exact absurd e (e0 _)
    | rt d => exact q
    | bk => exact q
    | ct => exact q
    | rm xs => exact q
theorem vs_cons {st : Stmt} {r : List Stmt} {a b : SS} (h1 : PS X st (vs c a)) (h2 : PSs X r (vs c b)) : PSs X (st :: r) (vs c (kS a b)) := pss_of (pss_cons h1 h2) seq_w
theorem vs_one {st : Stmt} {a : SS} (h1 : PS X st (vs c a)) : PSs X [st] (vs c a) := pss_one h1
theorem vs_ret {e : Expr} {s : SE} {pos} (h : PE X e (vt c s)) : PS X (.Return (some e) pos) (vs c (kRet s)) :=
  ps_of (ps_ret h) fun σ H E ⟨F, ρ, I, fl, ρ', e, q⟩ => by
    unfold kRet at e
    split at e
    · rename_i d ρ1 e1
      cases e
      exact ⟨F, ρ, I, d, ρ', e1, fun v H1 F1 x1 I1 r1 => q v σ H1 F1 x1 I1 r1⟩
    · cases e
theorem vs_if {t : Expr} {a b : List Stmt} {st : SB} {sa sb : SS} {pos} (ht : PT X t (vb c st)) (ha : PSs X a (vs c sa)) (hb : PSs X b (vs c sb)) : PS X (.If t a b pos) (vs c (kIf st sa sb)) :=
  ps_of (ps_if ht ha hb) fun σ H E ⟨F, ρ, I, fl, ρ', e, q⟩ => by
    unfold kIf at e
    split at e
    · rename_i ρ1 e1
      exact ⟨F, ρ, I, true, ρ1, e1, fun H1 F1 x1 I1 => iteT ⟨F1, ρ1, I1, fl, ρ', e, q.ext x1⟩⟩
    · rename_i ρ1 e1
      exact ⟨F, ρ, I, false, ρ1, e1, fun H1 F1 x1 I1 => iteF ⟨F1, ρ1, I1, fl, ρ', e, q.ext x1⟩⟩
    · cases e
theorem vs_never {st : Stmt} : PS X st (vs c kNever) := ps_of ps_never fun σ H E ⟨F, ρ, I, fl, ρ', e, q⟩ => by cases e
theorem vss_never {st : List Stmt} : PSs X st (vs c kNever) := pss_of pss_never fun σ H E ⟨F, ρ, I, fl, ρ', e, q⟩ => by cases e
theorem vs_drop {e : Expr} {s : SE} {pos : Pos} (h : PE X e (vt c s)) (hs : swapsWith e none pos.line X.env = pure false := by rfl) : PS X (.Expr e pos) (vs c (kDrop s)) :=
  ps_of (ps_expr h hs) fun σ H E ⟨F, ρ, I, fl, ρ', e, q⟩ => by
    unfold kDrop at e
    split at e
    · rename_i d ρ1 e1
      cases e
      exact ⟨F, ρ, I, d, ρ', e1, fun v H1 F1 x1 I1 r1 => q σ H1 F1 x1 I1⟩
    · cases e
/-- a slot gets a value -/
theorem Ok.put {F H : Hp} {σ : L2.St} {ρ : Rho} (I : Ok c F H σ ρ) (i : Nat) {v : V} {d : D} (r : Rep c.G F v d) : Ok c F H (σ.set i (some v)) (ρ.set i (.val d)) := by
  refine ⟨by rw [List.length_set, List.length_set]; exact I.len, I.f0, I.fh, I.fr, I.al, I.n0, fun j s hs => ?_, fun a b s t p q ha hb ms mt hp hq => ?_, I.hb, I.tb⟩
  · by_cases hj : i = j
    · subst hj
      have hi : i < ρ.length := by
        have := (List.getElem?_eq_some_iff.mp hs).1
        rwa [List.length_set] at this
      rw [List.getElem?_set_self hi] at hs
      cases hs
      exact ⟨some v, by rw [List.getElem?_set_self (by rw [I.len]; exact hi)], r⟩
    · rw [List.getElem?_set_ne hj] at hs
      obtain ⟨ov, h1, h2⟩ := I.sl j s hs
      exact ⟨ov, by rw [List.getElem?_set_ne hj]; exact h1, h2⟩
  · have no : ∀ (j : Nat) s, (ρ.set i (.val d))[j]? = some s → s.mut = true → i ≠ j := fun j s hs hm z => by
      subst z
      have hi : i < ρ.length := by
        have := (List.getElem?_eq_some_iff.mp hs).1
        rwa [List.length_set] at this
      rw [List.getElem?_set_self hi] at hs
      cases hs; cases hm
    have na := no a s ha ms
    have nb := no b t hb mt
    rw [List.getElem?_set_ne na] at ha hp
    rw [List.getElem?_set_ne nb] at hb hq
    exact I.ap a b s t p q ha hb ms mt hp hq
theorem set_w {i : Nat} {s : SE} (σ : L2.St) (H : Hp) (E : Ends) (h : vs c (kSet i s) E σ H) : tAsg (vt c s) (gName i) E σ H := by
  obtain ⟨F, ρ, I, fl, ρ', e, q⟩ := h
  unfold kSet at e
  split at e
  · rename_i d ρ1 e1
    cases e
    exact ⟨F, ρ, I, d, ρ1, e1, fun v H1 F1 x1 I1 r1 => q _ _ _ x1 (I1.put i r1)⟩
  · cases e
theorem vs_set {i : Nat} {x : Str} {e : Expr} {s : SE} {pos pos' : Pos} (hN : X.N.Nodup) (he : PE X e (vt c s)) (hi : X.N[i]? = some x := by rfl) (hx : Loc X.env.scope x := by first | exact Or.inl rfl | exact Or.inr rfl) (hs : swapsWith e (some (.Name x pos')) pos.line X.env = pure false := by rfl) (hf : X.fn x = true ∨ X.env.scope.names.lookup x = some .local := by first | exact .inl rfl | exact .inr rfl) :
    PS X (.Assign [.Name x pos'] e pos) (vs c (kSet i s)) := ps_of (ps_set hN hi hx he hs hf) set_w
end

/-! a def keeps its promise -/
def outOf (sl : List Sl) (ρ : Rho) : Option (List D) := match sl with
  | .bor _ :: _ => match ρ with
    | .bor xs :: _ => some xs
    | _ => none
  | .slf k _ :: _ => match ρ with
    | .slf k' xs :: _ => if k' = k then some xs else none
    | _ => none
  | _ => some []
/-- the mirror of a body with n names -/
def mir (n : Nat) (s : SS) : Mir := fun sl => match s (sl ++ List.replicate (n - sl.length) .no) with
  | some (.nx, ρ) => match outOf sl ρ with
    | some o => some (.non, o)
    | none => none
  | some (.rt d, ρ) => match outOf sl ρ with
    | some o => some (d, o)
    | none => none
  | _ => none
theorem mir_inv {n : Nat} {s : SS} {sl : List Sl} {d : D} {o : List D} (h : mir n s sl = some (d, o)) : ∃ fl ρ, s (sl ++ List.replicate (n - sl.length) .no) = some (fl, ρ) ∧ outOf sl ρ = some o ∧ (fl = .rt d ∨ (fl = .nx ∧ d = .non)) := by
  unfold mir at h
  split at h
  · split at h
    · cases h; exact ⟨_, _, by assumption, by assumption, .inr ⟨rfl, rfl⟩⟩
    · cases h
  · split at h
    · cases h; exact ⟨_, _, by assumption, by assumption, .inl rfl⟩
    · cases h
  · cases h
/-- the frame at the entry -/
theorem ok_start {G : Gx} {F H : Hp} {B : List Addr} {us : List V} {sl : List Sl} (e : Ext F H) (tb : TbOk G.T F H) (a : ArgOk G F H B us sl) (k : Nat) :
    Ok ⟨G, F, H, B⟩ F H (us.map some ++ List.replicate k none) (sl ++ List.replicate k .no) := by
  have atv : ∀ {us : List V} {ds : List D}, Reps G F us ds → ∀ (i : Nat) s, (ds.map Sl.val)[i]? = some s → s.mut = false ∧ ∃ v, us[i]? = some v ∧ ∀ H0 B, SlOk ⟨G, F, H0, B⟩ F H (some v) s := by
    intro us ds r i s h
    rw [List.getElem?_map] at h
    cases e : ds[i]? with
    | none => rw [e] at h; cases h
    | some d =>
      rw [e] at h; cases h
      obtain ⟨v, h1, h2⟩ := r.get e
      exact ⟨rfl, v, h1, fun _ _ => h2⟩
  have hlen := a.length
  -- the given slots
  have main : (∀ (i : Nat) s, sl[i]? = some s → (s.mut = true → i = 0) ∧ ∃ v, us[i]? = some v ∧ SlOk ⟨G, F, H, B⟩ F H (some v) s) ∧ ∀ p ∈ B, ∃ o, H p = some o := by
    cases a with
    | vals r =>
      refine ⟨fun i s h => ?_, fun p h => absurd h (by simp)⟩
      obtain ⟨h1, v, h2, h3⟩ := atv r i s h
      exact ⟨fun z => (by rw [h1] at z; cases z), v, h2, h3 _ _⟩
    | bor hf hh r r' =>
      refine ⟨fun i s h => ?_, fun p h => ?_⟩
      · cases i with
        | zero => simp at h; subst h; exact ⟨fun _ => rfl, _, rfl, _, rfl, by simp, hf, _, hh, r⟩
        | succ i =>
          obtain ⟨h1, v, h2, h3⟩ := atv r' i s (by simpa using h)
          exact ⟨fun z => (by rw [h1] at z; cases z), v, by simpa using h2, h3 _ _⟩
      · rw [List.mem_singleton] at h
        subst h; exact ⟨_, hh⟩
    | slf hf hh r' =>
      refine ⟨fun i s h => ?_, fun p h => ?_⟩
      · cases i with
        | zero => simp at h; subst h; exact ⟨fun _ => rfl, _, rfl, _, rfl, by simp, hf, _, _, hh, ⟨0, rfl⟩, .nil⟩
        | succ i =>
          obtain ⟨h1, v, h2, h3⟩ := atv r' i s (by simpa using h)
          exact ⟨fun z => (by rw [h1] at z; cases z), v, by simpa using h2, h3 _ _⟩
      · rw [List.mem_singleton] at h
        subst h; exact ⟨_, hh⟩
    | lam r l =>
      refine ⟨fun i s h => ?_, fun p h => absurd h (by simp)⟩
      match i with
      | 0 => simp at h; subst h; exact ⟨fun _ => rfl, _, rfl, r⟩
      | 1 => simp at h; subst h; exact ⟨(fun z => nomatch z), _, rfl, _, rfl, l⟩
      | i + 2 => simp at h
  obtain ⟨main, hb⟩ := main
  have part : ∀ (i : Nat) s, (sl ++ List.replicate k Sl.no)[i]? = some s → (i < sl.length ∧ sl[i]? = some s) ∨ (s = .no ∧ (us.map some ++ List.replicate k none)[i]? = some none) := fun i s h => by
    by_cases hi : i < sl.length
    · rw [List.getElem?_append_left hi] at h; exact .inl ⟨hi, h⟩
    · rw [List.getElem?_append_right (by omega), List.getElem?_replicate] at h
      split at h
      · rename_i hk
        cases h
        refine .inr ⟨rfl, ?_⟩
        rw [List.getElem?_append_right (by rw [List.length_map]; omega), List.getElem?_replicate, if_pos (by rw [List.length_map]; omega)]
      · cases h
  refine ⟨by simp [hlen], Ext.rfl', e, fun p o h _ _ => h, fun p o h => ⟨o, h⟩, fun p o _ h => h, fun i s h => ?_, fun i j s t p q hi hj ms mt _ _ _ => ?_, hb, tb⟩
  · rcases part i s h with ⟨hi, h1⟩ | ⟨h1, h2⟩
    · obtain ⟨_, v, h2, h3⟩ := main i s h1
      exact ⟨some v, by rw [List.getElem?_append_left (by rw [List.length_map]; omega), List.getElem?_map, h2]; rfl, h3⟩
    · subst h1; exact ⟨none, h2, trivial⟩
  · have z : ∀ (i : Nat) s, (sl ++ List.replicate k Sl.no)[i]? = some s → s.mut = true → i = 0 := fun i s h m => by
      rcases part i s h with ⟨_, h1⟩ | ⟨h1, _⟩
      · exact (main i s h1).1 m
      · subst h1; cases m
    rw [z i s hi ms, z j t hj mt]
/-- the frame at the end -/
theorem ok_end {G : Gx} {F H F' H' : Hp} {B : List Addr} {us : List V} {sl : List Sl} {σ : L2.St} {ρ : Rho} {o : List D} (e : Ext F H) (a : ArgOk G F H B us sl) (I : Ok ⟨G, F, H, B⟩ F' H' σ ρ) (ho : outOf sl ρ = some o) : Keep G.T B F H F' H' ∧ Out G F' H' B sl o := by
  refine ⟨⟨I.f0, I.fh, I.fr, I.al, I.n0, fun _ => I.tb⟩, ?_⟩
  cases a with
  | vals r => exact out_nil
  | lam r l => exact out_nil
  | bor hf hh r r' =>
    intro p hp
    rw [List.mem_singleton] at hp
    subst hp
    unfold outOf at ho
    dsimp only at ho
    split at ho
    · rename_i xs ρ'
      cases ho
      obtain ⟨ov, h1, h2⟩ := I.sl 0 _ rfl
      cases ov with
      | none => exact h2.elim
      | some v =>
        obtain ⟨q, e1, h3, h4, us, h5, h6⟩ := h2
        have h3 := List.mem_singleton.mp h3
        subst h3
        exact ⟨h4, us, h5, h6⟩
    · cases ho
  | slf hf' hh r' =>
    intro p hp
    rw [List.mem_singleton] at hp
    subst hp
    unfold outOf at ho
    dsimp only at ho
    split at ho
    · rename_i k' xs ρ'
      split at ho
      · rename_i hk
        subst hk
        cases ho
        obtain ⟨ov, h1, h2⟩ := I.sl 0 _ rfl
        cases ov with
        | none => exact h2.elim
        | some v =>
          obtain ⟨q, e1, h3, h4, dx, fs, h5, ⟨n, h6⟩, h7⟩ := h2
          have h3 := List.mem_singleton.mp h3
          subst h3
          exact ⟨h4, dx, fs, h5, ⟨n, h6⟩, h7⟩
      · cases ho
    · cases ho
/-- THE RULE for a def: what its body computes, by data -/
theorem fn_ok {P : Program} {w : World} {G : Gx} {mg : Str → Option Value} {base : Heap} {x qual : Str} {st : Stmt} {f : Addr} {fd : FuncData} {N ps : List Str} {k : Nat} {s : SS} (F : Fun G.K x qual st f fd) (S : FnScope N ps (defScope st))
    (hb : ∀ (c : Ctx) (cdv : Value) (A : Around) (outer : List Env) (sh : Shared) (H : Hp) (E : XK), c.G = G → Room k (A.deeper (envOfC qual (defScope st) sh.heap.objs.size f cdv)) →
      PSs (cxOf CX0 P w G.K mg base N qual (defScope st) f cdv A outer sh H E).nox (defBody st) (vs c s)) :
    FnOk P w G.K mg base CX0 (k + 1) f fd ps (spV G ps.length (mir N.length s)) := by
  refine F.ok S (fun us H Q E h => ?_) (fun cdv A outer sh H us Q E hr h => ?_)
  · obtain ⟨F0, B, sl, _, _, a, hn, _⟩ := h
    rw [a.length, hn]
  · obtain ⟨F0, B, sl, e, tb, a, hn, d, o, hm, q⟩ := h
    refine ⟨vs ⟨G, F0, H, B⟩ s, hb _ cdv A outer sh H E rfl hr, ?_⟩
    obtain ⟨fl, ρ, h1, h2, h3⟩ := mir_inv hm
    have hl := a.length
    refine ⟨F0, _, (by have := ok_start e tb a (N.length - sl.length); unfold L2.start; rw [hl]; exact this), fl, ρ, h1, ?_⟩
    · have fin : ∀ σ H' F', Ok ⟨G, F0, H, B⟩ F' H' σ ρ → Keep G.T B F0 H F' H' ∧ Out G F' H' B sl o := fun σ H' F' I => ok_end e a I h2
      rcases h3 with rfl | ⟨rfl, rfl⟩
      · exact fun v σ H' F' x I r => q v H' F' (fin σ H' F' I).1 (fin σ H' F' I).2 r
      · exact fun σ H' F' x I => q .non H' F' (fin σ H' F' I).1 (fin σ H' F' I).2 .non
end VS

set_option Elab.async false
set_option linter.all false
set_option maxRecDepth 100000
set_option maxHeartbeats 4000000
namespace VS
open PySem PySem.Spec PyProof.Rows L2

/-! what is walked, by data -/
abbrev SI := Rho → Option (List D × Rho)
def Yields (G : Gx) (J : It) (F0 : Hp) (ds : List D) : Prop := ∀ F H, Ext F0 F → Ext F H →
  (∀ (i : Nat) d, ds[i]? = some d → J.go i H ∧ ∀ x H', J.yld i H x H' → ∃ F', Grow F H F' H' ∧ Rep G F' x d) ∧ J.stop ds.length H
def vi (c : Ctx) (s : SI) : TI := fun σ H R => ∃ F ρ, Ok c F H σ ρ ∧ ∃ ds ρ', s ρ = some (ds, ρ') ∧ ∀ J H' F', Ext F F' → Ok c F' H' σ ρ' → Yields c.G J F' ds → R J H'
theorem pi_of {X : Cx} {tg e : Expr} {t t' : TI} (h : PI X tg e t) (w : ∀ σ H R, t' σ H R → t σ H R) : PI X tg e t' := ⟨fun pins s σ H R I q => h.run pins s σ H R I (w σ H R q)⟩
/-- a list or a tuple -/
def iSeq (a : SE) : SI := fun ρ => match a ρ with
  | some (.lst xs, ρ') => some (xs, ρ')
  | _ => none
def iTupl (a : SE) : SI := fun ρ => match a ρ with
  | some (.tup xs, ρ') => some (xs, ρ')
  | _ => none
/-- range(a, b) -/
def rng (a : Int) (n : Nat) : List D := (List.range n).map fun i => .int (a + (i : Nat))
def small62 (j : Int) : Prop := -(2 ^ 62) ≤ j ∧ j < 2 ^ 62
instance (j : Int) : Decidable (small62 j) := inferInstanceAs (Decidable (_ ∧ _))
def iR (a : SA) : SI := fun ρ => match a ρ with
  | some ([.int j], ρ') => if small62 j then some (rng 0 j.toNat, ρ') else none
  | _ => none
def iR2 (a : SA) : SI := fun ρ => match a ρ with
  | some ([.int i, .int j], ρ') => if small62 i ∧ small62 j then some (rng i (j - i).toNat, ρ') else none
  | _ => none
/-- range(a, b, -1) -/
def rngD (a : Int) (n : Nat) : List D := (List.range n).map fun i => .int (a - (i : Nat))
def iRD (a : SA) : SI := fun ρ => match a ρ with
  | some ([.int i, .int j, .int k], ρ') => if small62 i ∧ small62 j ∧ k = -1 then some (rngD i (i - j).toNat, ρ') else none
  | _ => none
def enumF : Nat → List D → List D
  | _, [] => []
  | i, d :: r => .tup [.int (i : Nat), d] :: enumF (i + 1) r
theorem enumF_get : ∀ (ds : List D) (k i : Nat), (enumF k ds)[i]? = ds[i]?.map fun d => .tup [.int ((k + i : Nat) : Int), d]
  | [], _, _ => by simp [enumF]
  | d :: r, k, 0 => by simp [enumF]
  | d :: r, k, i + 1 => by
    simp only [enumF, List.getElem?_cons_succ]
    rw [enumF_get r (k + 1) i, show k + 1 + i = k + (i + 1) by omega]
theorem enumF_length : ∀ (ds : List D) (k : Nat), (enumF k ds).length = ds.length
  | [], _ => rfl
  | d :: r, k => by simp [enumF, enumF_length r (k + 1)]
def iEn (a : SA) : SI := fun ρ => match a ρ with
  | some ([.lst xs], ρ') => some (enumF 0 xs, ρ')
  | _ => none
def iEnT (a : SA) : SI := fun ρ => match a ρ with
  | some ([.tup xs], ρ') => some (enumF 0 xs, ρ')
  | _ => none
def zipD (xs ys : List D) : List D := (xs.zip ys).map fun p => .tup [p.1, p.2]
def iZi (a : SA) : SI := fun ρ => match a ρ with
  | some ([.lst xs, .lst ys], ρ') => some (zipD xs ys, ρ')
  | some ([.tup xs, .tup ys], ρ') => some (zipD xs ys, ρ')
  | _ => none
section
variable {c : Ctx} {X : Cx} {tg : Expr}
theorem yields_list {K : PySem.W.Frag} {F0 : Hp} {a : Addr} {us : List V} {ds : List D} (h : F0 a = some (.lst us)) (r : Reps c.G F0 us ds) : Yields c.G (Itl K a) F0 ds := by
  intro F H e1 e2
  have hH : SqL K H a us := .of (e2 _ _ (e1 _ _ h))
  refine ⟨fun i d hd => ?_, us, hH, Nat.le_of_eq r.length⟩
  obtain ⟨v, h1, h2⟩ := r.get hd
  refine ⟨⟨us, v, hH, h1⟩, fun x H' y => ?_⟩
  obtain ⟨y1, y2⟩ := y
  subst y1
  have := y2 us hH
  rw [h1] at this; cases this
  exact ⟨F, .refl e2, h2.ext e1⟩
theorem yields_tup {K : PySem.W.Frag} {F0 : Hp} {a : Addr} {us : List V} {ds : List D} (h : F0 a = some (.tup us)) (r : Reps c.G F0 us ds) : Yields c.G (Itt K a) F0 ds := by
  intro F H e1 e2
  have hH : SqT K H a us := .of (e2 _ _ (e1 _ _ h))
  refine ⟨fun i d hd => ?_, us, hH, Nat.le_of_eq r.length⟩
  obtain ⟨v, h1, h2⟩ := r.get hd
  refine ⟨⟨us, v, hH, h1⟩, fun x H' y => ?_⟩
  obtain ⟨y1, y2⟩ := y
  subst y1
  have := y2 us hH
  rw [h1] at this; cases this
  exact ⟨F, .refl e2, h2.ext e1⟩
theorem vi_list {e : Expr} {a : SE} (h : PE X e (vt c a)) : PI X tg e (vi c (iSeq a)) := pi_of (pi_list h) fun σ H R ⟨F, ρ, I, ds, ρ', e, q⟩ => by
  unfold iSeq at e
  split at e
  · rename_i xs ρ1 e1
    cases e
    refine ⟨F, ρ, I, _, ρ', e1, fun v H1 F1 x1 I1 r1 => ?_⟩
    cases r1 with
    | lst h1 rs => exact ⟨_, rfl, ⟨_, .of (I1.fh _ _ h1)⟩, q _ _ F1 x1 I1 (yields_list h1 rs)⟩
  · cases e
theorem vi_tup {e : Expr} {a : SE} (h : PE X e (vt c a)) : PI X tg e (vi c (iTupl a)) := pi_of (pi_tup h) fun σ H R ⟨F, ρ, I, ds, ρ', e, q⟩ => by
  unfold iTupl at e
  split at e
  · rename_i xs ρ1 e1
    cases e
    refine ⟨F, ρ, I, _, ρ', e1, fun v H1 F1 x1 I1 r1 => ?_⟩
    cases r1 with
    | tup h1 rs => exact ⟨_, rfl, ⟨_, .of (I1.fh _ _ h1)⟩, q _ _ F1 x1 I1 (yields_tup h1 rs)⟩
  · cases e
theorem rng_get {a : Int} {n i : Nat} {d : D} (h : (rng a n)[i]? = some d) : i < n ∧ d = .int (a + (i : Nat)) := by
  unfold rng at h
  rw [List.getElem?_map] at h
  cases e : (List.range n)[i]? with
  | none => rw [e] at h; cases h
  | some j =>
    rw [e] at h; cases h
    obtain ⟨h1, h2⟩ := List.getElem?_eq_some_iff.mp e
    rw [List.getElem_range] at h2
    subst h2
    exact ⟨by simpa using h1, rfl⟩
theorem yields_rng {F0 : Hp} (a : Int) (n : Nat) : Yields c.G (Itr a n) F0 (rng a n) := by
  intro F H e1 e2
  refine ⟨fun i d hd => ?_, by show n ≤ _; simp [rng]⟩
  obtain ⟨h1, h2⟩ := rng_get hd
  subst h2
  refine ⟨h1, fun x H' y => ?_⟩
  obtain ⟨y1, y2⟩ := y
  subst y1 y2
  exact ⟨F, .refl e2, .int _⟩
theorem reps1 {F : Hp} {vs : List V} {d : D} (r : Reps c.G F vs [d]) : ∃ v, vs = [v] ∧ Rep c.G F v d := by
  cases r with
  | cons h r => cases r; exact ⟨_, rfl, h⟩
theorem reps2 {F : Hp} {vs : List V} {d d' : D} (r : Reps c.G F vs [d, d']) : ∃ v v', vs = [v, v'] ∧ Rep c.G F v d ∧ Rep c.G F v' d' := by
  cases r with
  | cons h r =>
    obtain ⟨v', e, h'⟩ := reps1 r
    subst e
    exact ⟨_, _, rfl, h, h'⟩
theorem reps3 {F : Hp} {vs : List V} {d d' d2 : D} (r : Reps c.G F vs [d, d', d2]) : ∃ v v' v2, vs = [v, v', v2] ∧ Rep c.G F v d ∧ Rep c.G F v' d' ∧ Rep c.G F v2 d2 := by
  cases r with
  | cons h r =>
    obtain ⟨v', v2, e, h', h2⟩ := reps2 r
    subst e
    exact ⟨_, _, _, rfl, h, h', h2⟩
theorem vi_range1 {a : Expr} {sa : SA} {p pos : Pos} (hm : X.mg "range" = none) (ha : PA X [a] (va c sa)) (hg : Gl X "range" := by rfl) (hs : starEach [a] X.env = [(false, eval a X.env)] := by rfl) : PI X tg (.Call (.Name "range" p) [a] [] pos) (vi c (iR sa)) :=
  pi_of (pi_range1 hg hm ha hs) fun σ H R ⟨F, ρ, I, ds, ρ', e, q⟩ => by
    unfold iR at e
    split at e
    · rename_i j ρ1 e1
      split at e
      · rename_i hj
        cases e
        refine ⟨F, ρ, I, _, ρ', e1, fun vs H1 F1 x1 I1 r1 => ?_⟩
        obtain ⟨v, ev, r⟩ := reps1 r1
        cases r
        exact ⟨_, ev, hj.1, hj.2, q _ _ F1 x1 I1 (yields_rng 0 _)⟩
      · cases e
    · cases e
theorem vi_range2 {a b : Expr} {sa : SA} {p pos : Pos} (hm : X.mg "range" = none) (ha : PA X [a, b] (va c sa)) (hg : Gl X "range" := by rfl) (hs : starEach [a, b] X.env = [(false, eval a X.env), (false, eval b X.env)] := by rfl) (hs2 : starEach [b] X.env = [(false, eval b X.env)] := by rfl) :
    PI X tg (.Call (.Name "range" p) [a, b] [] pos) (vi c (iR2 sa)) :=
  pi_of (pi_range2 hg hm ha hs hs2) fun σ H R ⟨F, ρ, I, ds, ρ', e, q⟩ => by
    unfold iR2 at e
    split at e
    · rename_i i j ρ1 e1
      split at e
      · rename_i hj
        cases e
        refine ⟨F, ρ, I, _, ρ', e1, fun vs H1 F1 x1 I1 r1 => ?_⟩
        obtain ⟨v, v', ev, r, r'⟩ := reps2 r1
        cases r; cases r'
        exact ⟨_, _, ev, ⟨hj.1.1, hj.1.2, hj.2.1, hj.2.2⟩, q _ _ F1 x1 I1 (yields_rng _ _)⟩
      · cases e
    · cases e
theorem rngD_get {a : Int} {n i : Nat} {d : D} (h : (rngD a n)[i]? = some d) : i < n ∧ d = .int (a - (i : Nat)) := by
  unfold rngD at h
  rw [List.getElem?_map] at h
  cases e : (List.range n)[i]? with
  | none => rw [e] at h; cases h
  | some j =>
    rw [e] at h; cases h
    obtain ⟨h1, h2⟩ := List.getElem?_eq_some_iff.mp e
    rw [List.getElem_range] at h2
    subst h2
    exact ⟨by simpa using h1, rfl⟩
theorem yields_rngD {F0 : Hp} (a : Int) (n : Nat) : Yields c.G (Itc a (-1) n) F0 (rngD a n) := by
  intro F H e1 e2
  refine ⟨fun i d hd => ?_, by show n ≤ _; simp [rngD]⟩
  obtain ⟨h1, h2⟩ := rngD_get hd
  subst h2
  refine ⟨h1, fun x H' y => ?_⟩
  obtain ⟨y1, y2⟩ := y
  subst y1 y2
  refine ⟨F, .refl e2, ?_⟩
  have : a + (i : Int) * (-1) = a - i := by omega
  rw [this]
  exact .int _
theorem vi_rangeD {a b d : Expr} {sa : SA} {p pos : Pos} (hm : X.mg "range" = none) (ha : PA X [a, b, d] (va c sa)) (hg : Gl X "range" := by rfl) (hs : starEach [a, b, d] X.env = (false, eval a X.env) :: starEach [b, d] X.env := by rfl) (hpl : (backTo pos (starEach [b, d] X.env)).any (·.1) = false := by rfl) :
    PI X tg (.Call (.Name "range" p) [a, b, d] [] pos) (vi c (iRD sa)) :=
  pi_of (pi_range3 hg hm ha hs hpl) fun σ H R ⟨F, ρ, I, ds, ρ', e, q⟩ => by
    unfold iRD at e
    split at e
    · rename_i i j k ρ1 e1
      split at e
      · rename_i hj
        cases e
        obtain ⟨h1, h2, h3⟩ := hj
        subst h3
        refine ⟨F, ρ, I, _, ρ', e1, fun vs H1 F1 x1 I1 r1 => ?_⟩
        obtain ⟨v, v', v2, ev, r, r', r2⟩ := reps3 r1
        cases r; cases r'; cases r2
        exact ⟨_, _, _, _, ev, RgC.neg h1.1 h1.2 h2.1 h2.2, q _ _ F1 x1 I1 (yields_rngD _ _)⟩
      · cases e
    · cases e
theorem yields_enum {K : PySem.W.Frag} {F0 : Hp} {a : Addr} {us : List V} {ds : List D} (h : F0 a = some (.lst us)) (r : Reps c.G F0 us ds) : Yields c.G (Ite K a) F0 (enumF 0 ds) := by
  intro F H e1 e2
  have hH : SqL K H a us := .of (e2 _ _ (e1 _ _ h))
  refine ⟨fun i d hd => ?_, us, hH, by rw [enumF_length]; exact Nat.le_of_eq r.length⟩
  rw [enumF_get] at hd
  cases e : ds[i]? with
  | none => rw [e] at hd; cases hd
  | some d0 =>
    rw [e] at hd; cases hd
    obtain ⟨v, h1, h2⟩ := r.get e
    refine ⟨⟨us, v, hH, h1⟩, fun x H' y => ?_⟩
    obtain ⟨T, v', y1, y2, y3, y4⟩ := y
    have := y4 us hH
    rw [h1] at this; cases this
    subst y1 y3
    refine ⟨_, .new e2 y2, .tup upd_same (.cons ?_ (.cons ((h2.ext e1).ext (Ext.upd (ext_none e2 y2))) .nil))⟩
    rw [Nat.zero_add]
    exact .int _
theorem vi_enum {e : Expr} {sa : SA} {p pos tpos : Pos} {elts : List Expr} {kk : Nat} (hm : X.mg "enumerate" = none) (ha : PA X [e] (va c sa)) (hg : Gl X "enumerate" := by rfl) (hs : starEach [e] X.env = [(false, eval e X.env)] := by rfl) :
    PI X (.Tuple elts kk tpos) (.Call (.Name "enumerate" p) [e] [] pos) (vi c (iEn sa)) :=
  pi_of (pi_enum hg hm ha hs) fun σ H R ⟨F, ρ, I, ds, ρ', e, q⟩ => by
    unfold iEn at e
    split at e
    · rename_i xs ρ1 e1
      cases e
      refine ⟨F, ρ, I, _, ρ', e1, fun vs H1 F1 x1 I1 r1 => ?_⟩
      obtain ⟨v, ev, r⟩ := reps1 r1
      cases r with
      | lst h1 rs => exact ⟨_, _, ev, .of (I1.fh _ _ h1), q _ _ F1 x1 I1 (yields_enum h1 rs)⟩
    · cases e
theorem zipD_get {xs ys : List D} {i : Nat} {d : D} (h : (zipD xs ys)[i]? = some d) : ∃ x y, xs[i]? = some x ∧ ys[i]? = some y ∧ d = .tup [x, y] := by
  unfold zipD at h
  rw [List.getElem?_map] at h
  cases e : (xs.zip ys)[i]? with
  | none => rw [e] at h; cases h
  | some p =>
    rw [e] at h; cases h
    have := List.getElem?_zip_eq_some.mp e
    exact ⟨p.1, p.2, this.1, this.2, rfl⟩
theorem zipD_length (xs ys : List D) : (zipD xs ys).length = min xs.length ys.length := by simp [zipD]
theorem yields_zip {K : PySem.W.Frag} {F0 : Hp} {a b : Addr} {us ws : List V} {ds es : List D} (h : F0 a = some (.lst us)) (r : Reps c.G F0 us ds) (h' : F0 b = some (.lst ws)) (r' : Reps c.G F0 ws es) : Yields c.G (Itz K a b) F0 (zipD ds es) := by
  intro F H e1 e2
  have hH : SqL K H a us := .of (e2 _ _ (e1 _ _ h))
  have hH' : SqL K H b ws := .of (e2 _ _ (e1 _ _ h'))
  refine ⟨fun i d hd => ?_, us, ws, hH, hH', by rw [zipD_length, r.length, r'.length]; omega⟩
  obtain ⟨x, y, g1, g2, rfl⟩ := zipD_get hd
  obtain ⟨v, h1, h2⟩ := r.get g1
  obtain ⟨v', h1', h2'⟩ := r'.get g2
  refine ⟨⟨us, ws, v, v', hH, hH', h1, h1'⟩, fun z H' yy => ?_⟩
  obtain ⟨T, w, w', y1, y2, y3, y4, y5⟩ := yy
  have := y4 us hH
  rw [h1] at this; cases this
  have := y5 ws hH'
  rw [h1'] at this; cases this
  subst y1 y3
  have ex := Ext.upd (o := .tup [v, v']) (ext_none e2 y2)
  exact ⟨_, .new e2 y2, .tup upd_same (.cons ((h2.ext e1).ext ex) (.cons ((h2'.ext e1).ext ex) .nil))⟩
theorem yields_zipT {K : PySem.W.Frag} {F0 : Hp} {a b : Addr} {us ws : List V} {ds es : List D} (h : F0 a = some (.tup us)) (r : Reps c.G F0 us ds) (h' : F0 b = some (.tup ws)) (r' : Reps c.G F0 ws es) : Yields c.G (RZ.ItzT K a b) F0 (zipD ds es) := by
  intro F H e1 e2
  have hH : SqT K H a us := .of (e2 _ _ (e1 _ _ h))
  have hH' : SqT K H b ws := .of (e2 _ _ (e1 _ _ h'))
  refine ⟨fun i d hd => ?_, us, ws, hH, hH', by rw [zipD_length, r.length, r'.length]; omega⟩
  obtain ⟨x, y, g1, g2, rfl⟩ := zipD_get hd
  obtain ⟨v, h1, h2⟩ := r.get g1
  obtain ⟨v', h1', h2'⟩ := r'.get g2
  refine ⟨⟨us, ws, v, v', hH, hH', h1, h1'⟩, fun z H' yy => ?_⟩
  obtain ⟨T, w, w', y1, y2, y3, y4, y5⟩ := yy
  have := y4 us hH
  rw [h1] at this; cases this
  have := y5 ws hH'
  rw [h1'] at this; cases this
  subst y1 y3
  have ex := Ext.upd (o := .tup [v, v']) (ext_none e2 y2)
  exact ⟨_, .new e2 y2, .tup upd_same (.cons ((h2.ext e1).ext ex) (.cons ((h2'.ext e1).ext ex) .nil))⟩
theorem vi_zip {e e2 : Expr} {sa : SA} {p pos tpos : Pos} {elts : List Expr} {kk : Nat} (hm : X.mg "zip" = none) (ha : PA X [e, e2] (va c sa)) (hg : Gl X "zip" := by rfl)
    (hs : starEach [e, e2] X.env = (false, eval e X.env) :: starEach [e2] X.env := by rfl) (hpl : (backTo pos (starEach [e2] X.env)).any (·.1) = false := by rfl) :
    PI X (.Tuple elts kk tpos) (.Call (.Name "zip" p) [e, e2] [] pos) (vi c (iZi sa)) :=
  pi_of (RZ.pi_zipA hg hm ha hs hpl) fun σ H R ⟨F, ρ, I, ds, ρ', e, q⟩ => by
    unfold iZi at e
    split at e
    · rename_i xs ys ρ1 e1
      cases e
      refine ⟨F, ρ, I, _, ρ', e1, fun vs H1 F1 x1 I1 r1 => ?_⟩
      obtain ⟨v, v', ev, r, r'⟩ := reps2 r1
      cases r with
      | lst h1 rs =>
        cases r' with
        | lst h2 rs' => exact ⟨_, _, _, _, ev, .inl ⟨.of (I1.fh _ _ h1), .of (I1.fh _ _ h2), q _ _ F1 x1 I1 (yields_zip h1 rs h2 rs')⟩⟩
    · rename_i xs ys ρ1 e1
      cases e
      refine ⟨F, ρ, I, _, ρ', e1, fun vs H1 F1 x1 I1 r1 => ?_⟩
      obtain ⟨v, v', ev, r, r'⟩ := reps2 r1
      cases r with
      | tup h1 rs =>
        cases r' with
        | tup h2 rs' => exact ⟨_, _, _, _, ev, .inr ⟨.of (I1.fh _ _ h1), .of (I1.fh _ _ h2), q _ _ F1 x1 I1 (yields_zipT h1 rs h2 rs')⟩⟩
    · cases e
end

/-! enumerate(tuple) -/
/-- the tuple at a, each item in a new pair with its place -/
def IteT (K : PySem.W.Frag) (a : Addr) : It :=
  ⟨fun i H => ∃ (xs : List V) (x : V), SqT K H a xs ∧ xs[i]? = some x, fun i H v H' => ∃ T x, v = .ref T ∧ H T = none ∧ H' = upd H T (.tup [.int (i : Nat), x]) ∧ ∀ xs, SqT K H a xs → xs[i]? = some x, fun i H => ∃ xs : List V, SqT K H a xs ∧ xs.length = i⟩
theorem turn_enumT {P : Program} {w : World} {K : PySem.W.Frag} {elts : List Expr} {kk : Nat} {tpos : Pos} (a e it : Addr) (hai : a ≠ it) (hae : a ≠ e) :
    Turn P w K (.Tuple elts kk tpos) (IteT K a) [e, it] e (fun i h => (∃ old, IsEnum h e it (0 + (i : Int)) old) ∧ h.IsTupleIter it a i ∧ e ≠ it) where
  mem := List.mem_cons_self
  obj := by
    rintro i h ⟨⟨old, he⟩, ⟨o, ho, hc, hd⟩, _⟩ b hb
    rcases List.mem_cons.mp hb with rfl | hb
    · exact ⟨_, he, by rintro v q; cases q⟩
    · rw [List.mem_singleton] at hb
      subst hb
      exact ⟨o, ho, by rintro v q; rw [hd] at q; cases q⟩
  keep := by
    rintro i h h' ⟨⟨old, he⟩, hi, hne⟩ k
    exact ⟨⟨old, k e List.mem_cons_self _ he⟩, hi.at fun o q => k it (List.mem_cons_of_mem _ List.mem_cons_self) o q, hne⟩
  item := by
    rintro X rfl rfl rfl hc i pins s σ H E I hf ⟨he, hit, hne⟩ ⟨xs, x, hq, hx⟩
    obtain ⟨its, rv, p, hz⟩ := I.tuple hq
    have hilt : i < its.toArray.size := by
      have := (List.getElem?_eq_some_iff.mp hx).1
      rw [List.size_toArray, ← rv.length]; exact this
    have hh : X.A.in1.handled = none := I.ok.hd hc
    refine wpAny_mono ((GoesN.enumFrom (elts := elts) (x1 := kk) (pos := tpos) 0 (Draws.tuple hh it a hai its.toArray) e hne (by simp only [List.mem_cons, List.not_mem_nil, or_false]; rintro (z | z); exact hne z; exact hae z.symm) List.mem_cons_self).goes i s
      (fun u s2 => ∃ x H', Inv X pins σ H' s2 ∧ RelV x u ∧ (IteT X.K a).yld i H x H' ∧ ((∃ old, IsEnum s2.heap e it (0 + ((i + 1 : Nat) : Int)) old) ∧ s2.heap.IsTupleIter it a (i + 1) ∧ e ≠ it) ∧ ∀ b ∈ [e, it], H' b = none) E hilt ⟨he, hit, p⟩ ?_)
      (fun r s1 ⟨v, h1, h2⟩ => ⟨v, h1, h2⟩) fun _ _ z => z
    rintro v h' tk ⟨T, t, u, rfl, hT, hu, hTup⟩ ⟨he', hit', _⟩ hk htk
    obtain ⟨u', hu', ru⟩ := rv.get hx
    have eu : u = u' := by
      have h1 : its[i]? = some u := by simpa using hu
      rw [hu'] at h1
      exact (Option.some.inj h1).symm
    subst eu
    have new : ObjOk X.prog X.w (upd H T (.tup [.int (i : Nat), x])) h' T (.tup [.int (i : Nat), x]) := by
      refine ⟨by show 2 ≤ sizeLine; decide, [.int (0 + (i : Int)) t, u], .cons ⟨t, by rw [Int.zero_add]⟩ (.cons ru .nil), hTup⟩
    refine ⟨.ref T, _, I.turnedNew (ch := [e, it]) hk hf hT new, rfl, ⟨T, x, rfl, I.hok.fresh hT, rfl, fun ys hy => by rw [I.tuple_inj hy hq]; exact hx⟩, ⟨he', hit', hne⟩, fun b hb => ?_⟩
    have hbl : b < s.heap.objs.size := by
      obtain ⟨⟨old, he⟩, ⟨o, ho, _⟩⟩ := And.intro he hit
      rcases List.mem_cons.mp hb with rfl | hb
      · exact Heap.lt_size he
      · rw [List.mem_singleton] at hb; subst hb; exact Heap.lt_size ho
    rw [upd_ne (Nat.ne_of_lt (Nat.lt_of_lt_of_le hbl hT))]
    exact (hf b hb).1
  done := by
    rintro X rfl rfl rfl hc i pins s σ H E I hf ⟨he, hit, hne⟩ ⟨xs, hq, hx⟩
    obtain ⟨its, rv, p, hz⟩ := I.tuple hq
    have hn : its.toArray.size = i := by rw [List.size_toArray, ← rv.length]; exact hx
    have hh : X.A.in1.handled = none := I.ok.hd hc
    refine wpAny_mono ((GoesN.enumFrom (elts := elts) (x1 := kk) (pos := tpos) 0 (Draws.tuple hh it a hai its.toArray) e hne (by simp only [List.mem_cons, List.not_mem_nil, or_false]; rintro (z | z); exact hne z; exact hae z.symm) List.mem_cons_self).stops s
      (fun s2 => Inv X pins σ H s2) E (by rw [hn]; exact ⟨he, hit, p⟩) fun h' tk hk htk => I.turnedL (ch := [e, it]) hk hf) (fun r s1 z => z) fun _ _ z => z
  self := by
    rintro A i s Q E ⟨⟨old, he⟩, _⟩ h
    exact wpAny_pyIter_enum he h
end VS

set_option Elab.async false
set_option linter.all false
set_option maxRecDepth 100000
set_option maxHeartbeats 4000000
namespace VS
open PySem PySem.Spec PyProof.Rows L2

/-! enumerate(t), t a tuple: made -/
abbrev titer (t : Addr) : Obj := { cls := .type "tuple_iterator", data := .fields #[.ref t, .int 0 0] }
abbrev enumAt (it : Addr) : Obj := { cls := .type "enumerate", data := .fields #[.none, .bool false, .ref it, rawInt 0, .none, .none] }
theorem made_enumT (t : Addr) (its : Array Value) : Meets (Builtin.«enumerate.__new__» ⟨[.type "enumerate", .ref t], []⟩)
    (fun _ R s => s.heap.IsTuple t its ∧ R (.ok (.ret (.ref (s.heap.push (titer t)).objs.size))) { s with heap := (s.heap.push (titer t)).push (enumAt s.heap.objs.size) }) := by
  refine .of_wp fun prog w A R s q => ?_
  rcases s with ⟨h0, gs, dr, tk, os⟩
  rcases q with ⟨ht, q⟩
  have known := sub_enumerate
  have begins : ∀ {A' : Around} {E : Value → Shared → Prop} {Q : Value → Shared → Prop}, Q (.ref h0.objs.size) ⟨h0.push (titer t), gs, dr, tk, os⟩ → wpAny (model prog w) A' (pyIter (.ref t)) Q E ⟨h0, gs, dr, tk, os⟩ :=
    fun z => wpAny_pyIter_tuple (s := ⟨h0, gs, dr, tk, os⟩) ht z
  wp_walk using begins
  refine wpAny_stack_any fun st => wpAny_pure ?_
  split
  · rename_i cl _ _ _ _ _
    cases (cl == Value.type "enumerate") <;> (wp_walk using begins; exact ⟨_, rfl, q⟩)
  · wp_walk using begins
    exact ⟨_, rfl, q⟩
theorem call_enumT {prog : Program} {w : World} {A : Around} {E : Value → Shared → Prop} {s : Shared} {t : Addr} {its : Array Value} {Q : Value → Shared → Prop} (ht : s.heap.IsTuple t its)
    (q : ∀ h', IsEnum h' (s.heap.objs.size + 1) s.heap.objs.size 0 .none → h'.IsTupleIter s.heap.objs.size t 0 → (∀ b o, s.heap.get? b = some o → h'.get? b = some o) → Q (.ref (s.heap.objs.size + 1)) { s with heap := h' }) :
    wpAny (model prog w) A (call (.type "enumerate") [.ref t]) Q E s := by
  have sz : (s.heap.push (titer t)).objs.size = s.heap.objs.size + 1 := Heap.size_push _ _
  have at1 : IsEnum ((s.heap.push (titer t)).push (enumAt s.heap.objs.size)) (s.heap.objs.size + 1) s.heap.objs.size 0 .none := by
    have z := Heap.get?_push_size (s.heap.push (titer t)) (o := enumAt s.heap.objs.size) rfl
    rwa [sz] at z
  have at0 : ((s.heap.push (titer t)).push (enumAt s.heap.objs.size)).IsTupleIter s.heap.objs.size t 0 := ⟨_, Heap.get?_push_of_some _ (Heap.get?_push_size _ rfl), rfl, rfl⟩
  have fin := q _ at1 at0 fun b o z => Heap.get?_push_of_some _ (Heap.get?_push_of_some _ z)
  refine callType_new F.called_enumerate (by decide) (F.typeCall_enumerate_1 _) (F.newCall_enumerate_1 _) (fun ob => F.args_object_init_2 ob _) F.entry_enumerate_new (made_enumT t its) ⟨ht, ?_⟩
  rw [sz]
  exact ⟨⟨_, at1, rfl⟩, fin⟩
def iEnumT (K : PySem.W.Frag) (ta : TA) : TI := fun σ H R => ta σ H fun vs H1 => ∃ a xs, vs = [.ref a] ∧ SqT K H1 a xs ∧ R (IteT K a) H1
theorem pi_enumT {X : Cx} {e : Expr} {ta : TA} {p pos tpos : Pos} {elts : List Expr} {kk : Nat} (hg : Gl X "enumerate") (hm : X.mg "enumerate" = none) (ha : PA X [e] ta) (one : starEach [e] X.env = [(false, eval e X.env)] := by rfl) :
    PI X (.Tuple elts kk tpos) (.Call (.Name "enumerate" p) [e] [] pos) (iEnumT X.K ta) := by
  constructor
  intro pins s σ H R I q
  refine Call_ (ld_blt I hg hm boot_enumerate (PyProof.Rows.callWith_type1 (thn (ha.run pos pins s σ H _ I q) ?_) one rfl))
  rintro us s1 ⟨vs, H1, I1, r1, a, xs, rfl, hq, fin⟩
  obtain ⟨u, rfl, ru⟩ := vals1 r1
  cases ru
  obtain ⟨its, rv, pt, _⟩ := I1.tuple hq
  have al : a < s1.heap.objs.size := by obtain ⟨o, ho, _⟩ := pt; exact Heap.lt_size ho
  refine call_enumT pt fun h' he hit hk => wpAny_pyIter_enum he ?_
  have I2 : Inv X pins σ H1 { s1 with heap := h' } := I1.kept (t' := s1.toks) hk
  refine ⟨s1.heap.objs.size + 1, [s1.heap.objs.size + 1, s1.heap.objs.size], _, _, H1, rfl, I2, turn_enumT a (s1.heap.objs.size + 1) s1.heap.objs.size (Nat.ne_of_lt al) (Nat.ne_of_lt (Nat.lt_succ_of_lt al)), ⟨⟨.none, he⟩, hit, Nat.succ_ne_self _⟩, ?_, fin⟩
  intro b hb
  have le : s1.heap.objs.size ≤ b := by
    rcases List.mem_cons.mp hb with rfl | hb
    · exact Nat.le_succ _
    · rw [List.mem_singleton] at hb; exact Nat.le_of_eq hb.symm
  exact I1.fpOk le (I1.hok.fresh le)
section
variable {c : Ctx} {X : Cx}
theorem yields_enumT {K : PySem.W.Frag} {F0 : Hp} {a : Addr} {us : List V} {ds : List D} (h : F0 a = some (.tup us)) (r : Reps c.G F0 us ds) : Yields c.G (IteT K a) F0 (enumF 0 ds) := by
  intro F H e1 e2
  have hH : SqT K H a us := .of (e2 _ _ (e1 _ _ h))
  refine ⟨fun i d hd => ?_, us, hH, by rw [enumF_length]; exact r.length⟩
  rw [enumF_get] at hd
  cases e : ds[i]? with
  | none => rw [e] at hd; cases hd
  | some d0 =>
    rw [e] at hd; cases hd
    obtain ⟨v, h1, h2⟩ := r.get e
    refine ⟨⟨us, v, hH, h1⟩, fun x H' y => ?_⟩
    obtain ⟨T, v', y1, y2, y3, y4⟩ := y
    have := y4 us hH
    rw [h1] at this; cases this
    subst y1 y3
    refine ⟨_, .new e2 y2, .tup upd_same (.cons ?_ (.cons ((h2.ext e1).ext (Ext.upd (ext_none e2 y2))) .nil))⟩
    rw [Nat.zero_add]
    exact .int _
theorem vi_enumT {e : Expr} {sa : SA} {p pos tpos : Pos} {elts : List Expr} {kk : Nat} (hm : X.mg "enumerate" = none) (ha : PA X [e] (va c sa)) (hg : Gl X "enumerate" := by rfl) (hs : starEach [e] X.env = [(false, eval e X.env)] := by rfl) :
    PI X (.Tuple elts kk tpos) (.Call (.Name "enumerate" p) [e] [] pos) (vi c (iEnT sa)) :=
  pi_of (pi_enumT hg hm ha hs) fun σ H R ⟨F, ρ, I, ds, ρ', e, q⟩ => by
    unfold iEnT at e
    split at e
    · rename_i xs ρ1 e1
      cases e
      refine ⟨F, ρ, I, _, ρ', e1, fun vs H1 F1 x1 I1 r1 => ?_⟩
      obtain ⟨v, ev, r⟩ := reps1 r1
      cases r with
      | tup h1 rs => exact ⟨_, _, ev, .of (I1.fh _ _ h1), q _ _ F1 x1 I1 (yields_enumT h1 rs)⟩
    · cases e

/-! targets: a name, a tuple of names -/
def gsN : List Nat → TGs
  | [] => gNil
  | i :: r => gCons (gName i) (gsN r)
inductive Tg where
  | nm (i : Nat) | tp (is : List Nat) | np (i : Nat) (is : List Nat)
def gT (K : PySem.W.Frag) : Tg → TG
  | .nm i => gName i
  | .tp is => L2.gTup K is.length (gsN is)
  | .np i is => L2.gTup K 2 (gCons (gName i) (gCons (L2.gTup K is.length (gsN is)) gNil))
def sets : List Nat → List D → Rho → Option Rho
  | [], [], ρ => some ρ
  | i :: r, d :: ds, ρ => sets r ds (ρ.set i (.val d))
  | _, _, _ => none
def tgt : Tg → D → Rho → Option Rho
  | .nm i, d, ρ => some (ρ.set i (.val d))
  | .tp is, .tup ds, ρ => sets is ds ρ
  | .np i is, .tup [d, .tup ds], ρ => sets is ds (ρ.set i (.val d))
  | _, _, _ => none
def Tg.ix : Tg → List Nat
  | .nm i => [i]
  | .tp is => is
  | .np i is => i :: is
theorem wipe_set {σ : L2.St} {i : Nat} {x : Option V} : ∀ {vs : List Nat}, i ∈ vs → wipe (σ.set i x) vs = wipe σ vs := by
  have at' : ∀ (vs : List Nat) (σ : L2.St) (j : Nat), (wipe σ vs)[j]? = if j ∈ vs then (if j < σ.length then some none else none) else σ[j]? := by
    intro vs
    induction vs with
    | nil => intro σ j; simp [wipe]
    | cons v vs ih =>
      intro σ j
      unfold wipe
      by_cases hv : v = j
      · subst hv
        by_cases hl : v < σ.length
        · rw [List.getElem?_set_self (by rw [wipe_length]; exact hl)]; simp [hl]
        · rw [List.getElem?_eq_none (by rw [List.length_set, wipe_length]; omega)]; simp [hl]
      · rw [List.getElem?_set_ne hv, ih σ j]
        have : (j ∈ v :: vs) ↔ j ∈ vs := by simp [Ne.symm hv]
        simp only [this]
  intro vs hi
  apply List.ext_getElem?
  intro j
  rw [at', at']
  by_cases hj : j ∈ vs
  · simp [hj]
  · have : i ≠ j := fun z => hj (z ▸ hi)
    simp [hj, List.getElem?_set_ne this]
theorem sets_w {F H : Hp} : ∀ {is : List Nat} {ds : List D} {ρ ρ' : Rho} {us : List V} {σ : L2.St} {Q : L2.St → Hp → Prop} (_ : Ok c F H σ ρ) (_ : Reps c.G F us ds) (_ : sets is ds ρ = some ρ')
    (_ : ∀ σ', Ok c F H σ' ρ' → (∀ vs : List Nat, (∀ i ∈ is, i ∈ vs) → wipe σ' vs = wipe σ vs) → Q σ' H), gsN is us σ H Q
  | [], [], ρ, ρ', us, σ, Q, I, r, h, q => by
    cases r
    unfold sets at h
    cases h
    exact ⟨rfl, q σ I fun _ _ => rfl⟩
  | i :: is, d :: ds, ρ, ρ', us, σ, Q, I, r, h, q => by
    cases r with
    | cons r1 r2 =>
      unfold sets at h
      refine ⟨_, _, rfl, sets_w (I.put i r1) r2 h fun σ' I' w => q σ' I' fun vs hv => ?_⟩
      rw [w vs fun j hj => hv j (List.mem_cons_of_mem _ hj)]
      exact wipe_set (hv i List.mem_cons_self)
  | [], _ :: _, _, _, _, _, _, _, _, h, _ => by unfold sets at h; cases h
  | _ :: _, [], _, _, _, _, _, _, _, h, _ => by unfold sets at h; cases h
theorem sets_len : ∀ {is : List Nat} {ds : List D} {ρ ρ' : Rho}, sets is ds ρ = some ρ' → ds.length = is.length
  | [], [], _, _, _ => rfl
  | _ :: is, _ :: ds, _, _, h => by unfold sets at h; simp [sets_len h]
  | [], _ :: _, _, _, h => by unfold sets at h; cases h
  | _ :: _, [], _, _, h => by unfold sets at h; cases h
theorem tgt_w {K : PySem.W.Frag} {F H : Hp} {t : Tg} {d : D} {ρ ρ' : Rho} {v : V} {σ : L2.St} {Q : L2.St → Hp → Prop} (I : Ok c F H σ ρ) (r : Rep c.G F v d) (h : tgt t d ρ = some ρ')
    (q : ∀ σ', Ok c F H σ' ρ' → (∀ vs : List Nat, (∀ i ∈ t.ix, i ∈ vs) → wipe σ' vs = wipe σ vs) → Q σ' H) : gT K t v σ H Q := by
  cases t with
  | nm i =>
    unfold tgt at h
    cases h
    exact q _ (I.put i r) fun vs hv => wipe_set (hv i List.mem_cons_self)
  | tp is =>
    cases d with
    | tup ds =>
      have h : sets is ds ρ = some ρ' := h
      cases r with
      | tup h1 rs => exact ⟨_, _, rfl, .of (I.fh _ _ h1), by rw [rs.length]; exact sets_len h, sets_w I rs h q⟩
    | _ => simp [tgt] at h
  | np i is =>
    unfold tgt at h
    split at h
    · rename_i e; cases e
    · rename_i e; cases e
    · rename_i e
      cases e
      cases r with
      | tup h1 rs =>
        cases rs with
        | cons r1 r2 =>
          cases r2 with
          | cons r2 r3 =>
            cases r3
            cases r2 with
            | tup h2 rs2 =>
              refine ⟨_, _, rfl, .of (I.fh _ _ h1), rfl, _, _, rfl, _, _, rfl, ⟨_, _, rfl, .of (I.fh _ _ h2), by rw [rs2.length]; exact sets_len h, sets_w (I.put i r1) rs2 h fun σ' I' w => ⟨rfl, q σ' I' fun vs hv => ?_⟩⟩⟩
              rw [w vs fun j hj => hv j (List.mem_cons_of_mem _ hj)]
              exact wipe_set (hv i List.mem_cons_self)
    · cases h

/-! for -/
def kLoop (t : Tg) (b : SS) : List D → SS
  | [], ρ => some (.nx, ρ)
  | d :: r, ρ => match tgt t d ρ with
    | some ρ1 => match b ρ1 with
      | some (.nx, ρ2) => kLoop t b r ρ2
      | some (.ct, ρ2) => kLoop t b r ρ2
      | some (.bk, ρ2) => some (.nx, ρ2)
      | some (.rt x, ρ2) => some (.rt x, ρ2)
      | some (.rm x, ρ2) => some (.rm x, ρ2)
      | none => none
    | none => none
def kFor (it : SI) (t : Tg) (b : SS) : SS := fun ρ => match it ρ with
  | some (ds, ρ1) => kLoop t b ds ρ1
  | none => none
theorem vs_for {tg iter : Expr} {body : List Stmt} {it : SI} {t : Tg} {b : SS} {pos : Pos} (hp : PassesOwn (model X.prog X.w) X.A X.env X.xe) (hc : X.calm = true) (hi : PI X tg iter (vi c it)) (hg : PG X tg (gT X.K t)) (hb : PSs X body (vs c b))
    (hs : ∀ x, foldedSetIterable iter X.env x = pure x := by intro _; rfl) : PS X (.For tg iter body [] pos) (vs c (kFor it t b)) :=
  ps_of (ps_for hp hc hi hg hb hs) fun σ H E ⟨F, ρ, I, fl, ρ', e, q⟩ => by
    unfold kFor at e
    split at e
    · rename_i ds ρ1 e1
      refine ⟨F, ρ, I, ds, ρ1, e1, fun J H1 F1 x1 I1 y => ?_⟩
      refine ⟨fun i m σ H => m = ds.length - i ∧ i ≤ ds.length ∧ ∃ F2 ρ2, Ok c F2 H σ ρ2 ∧ Ext F1 F2 ∧ kLoop t b (ds.drop i) ρ2 = some (fl, ρ'), ⟨ds.length, by simp, Nat.zero_le _, F1, ρ1, I1, Ext.rfl', e⟩, ?_⟩
      rintro i m σ2 H2 ⟨rfl, hi, F2, ρ2, I2, x2, e2⟩
      obtain ⟨y1, y2⟩ := y F2 H2 x2 I2.fh
      by_cases hlt : i < ds.length
      · rw [List.drop_eq_getElem_cons hlt] at e2
        unfold kLoop at e2
        obtain ⟨g1, g2⟩ := y1 i ds[i] (by simp [hlt])
        split at e2
        · rename_i ρ3 e3
          refine .inr ⟨g1, fun σ' H' => i + 1 ≤ ds.length ∧ ∃ F2 ρ2, Ok c F2 H' σ' ρ2 ∧ Ext F1 F2 ∧ kLoop t b (ds.drop (i + 1)) ρ2 = some (fl, ρ'), fun σ' H' ⟨h1, h2⟩ => ⟨ds.length - (i + 1), by omega, rfl, h1, h2⟩, fun x H' yy => ?_⟩
          obtain ⟨F3, g3, r3⟩ := g2 x H' yy
          refine tgt_w (I2.grow g3) r3 e3 fun σ4 I4 _ => ?_
          have x3 : Ext F1 F3 := x2.trans g3.f
          split at e2
          · rename_i ρ5 e5
            exact ⟨F3, ρ3, I4, .nx, ρ5, e5, fun σ6 H6 F6 x6 I6 => ⟨hlt, F6, ρ5, I6, x3.trans x6, e2⟩⟩
          · rename_i ρ5 e5
            exact ⟨F3, ρ3, I4, .ct, ρ5, e5, fun σ6 H6 F6 x6 I6 => ⟨hlt, F6, ρ5, I6, x3.trans x6, e2⟩⟩
          · rename_i ρ5 e5
            cases e2
            exact ⟨F3, ρ3, I4, .bk, ρ', e5, fun σ6 H6 F6 x6 I6 => q σ6 H6 F6 ((x1.trans x3).trans x6) I6⟩
          · rename_i d5 ρ5 e5
            cases e2
            exact ⟨F3, ρ3, I4, .rt d5, ρ', e5, fun v σ6 H6 F6 x6 I6 r6 => q v σ6 H6 F6 ((x1.trans x3).trans x6) I6 r6⟩
          · rename_i d5 ρ5 e5
            cases e2
            exact ⟨F3, ρ3, I4, .rm d5, ρ', e5, fun p us σ6 H6 F6 x6 I6 a1 a2 a3 r6 => q p us σ6 H6 F6 ((x1.trans x3).trans x6) I6 a1 a2 a3 r6⟩
          · cases e2
        · cases e2
      · have hi' : i = ds.length := by omega
        subst hi'
        rw [List.drop_length] at e2
        unfold kLoop at e2
        cases e2
        exact .inl ⟨y2, q σ2 H2 F2 (x1.trans x2) I2⟩
    · cases e
/-! while: at most so many turns -/
def kWh (t : SB) (b : SS) : Nat → SS
  | 0, _ => none
  | n + 1, ρ => match t ρ with
    | some (true, ρ1) => match b ρ1 with
      | some (.nx, ρ2) => kWh t b n ρ2
      | some (.ct, ρ2) => kWh t b n ρ2
      | some (.bk, ρ2) => some (.nx, ρ2)
      | some (.rt x, ρ2) => some (.rt x, ρ2)
      | some (.rm x, ρ2) => some (.rm x, ρ2)
      | none => none
    | some (false, ρ1) => some (.nx, ρ1)
    | none => none
def kWhile (n : Rho → Nat) (t : SB) (b : SS) : SS := fun ρ => kWh t b (n ρ) ρ
theorem vs_while {test : Expr} {body : List Stmt} {t : SB} {b : SS} {pos : Pos} (n : Rho → Nat) (hp : PassesOwn (model X.prog X.w) X.A X.env X.xe) (ht : PT X test (vb c t)) (hb : PSs X body (vs c b)) : PS X (.While test body [] pos) (vs c (kWhile n t b)) :=
  ps_of (ps_while hp ht hb) fun σ H E ⟨F, ρ, I, fl, ρ', e, q⟩ => by
    refine ⟨fun m σ H => ∃ F2 ρ2, Ok c F2 H σ ρ2 ∧ Ext F F2 ∧ kWh t b m ρ2 = some (fl, ρ'), ⟨n ρ, F, ρ, I, Ext.rfl', e⟩, ?_⟩
    rintro m σ2 H2 ⟨F2, ρ2, I2, x2, e2⟩
    cases m with
    | zero => unfold kWh at e2; cases e2
    | succ m =>
      unfold kWh at e2
      split at e2
      · rename_i ρ3 e3
        refine ⟨F2, ρ2, I2, true, ρ3, e3, fun H3 F3 x3 I3 => iteT ⟨fun σ' H' => ∃ F2 ρ2, Ok c F2 H' σ' ρ2 ∧ Ext F F2 ∧ kWh t b m ρ2 = some (fl, ρ'), fun σ' H' h => ⟨m, Nat.lt_succ_self _, h⟩, ?_⟩⟩
        have x4 : Ext F F3 := x2.trans x3
        split at e2
        · rename_i ρ5 e5
          exact ⟨F3, ρ3, I3, .nx, ρ5, e5, fun σ6 H6 F6 x6 I6 => ⟨F6, ρ5, I6, x4.trans x6, e2⟩⟩
        · rename_i ρ5 e5
          exact ⟨F3, ρ3, I3, .ct, ρ5, e5, fun σ6 H6 F6 x6 I6 => ⟨F6, ρ5, I6, x4.trans x6, e2⟩⟩
        · rename_i ρ5 e5
          cases e2
          exact ⟨F3, ρ3, I3, .bk, ρ', e5, fun σ6 H6 F6 x6 I6 => q σ6 H6 F6 (x4.trans x6) I6⟩
        · rename_i d5 ρ5 e5
          cases e2
          exact ⟨F3, ρ3, I3, .rt d5, ρ', e5, fun v σ6 H6 F6 x6 I6 r6 => q v σ6 H6 F6 (x4.trans x6) I6 r6⟩
        · rename_i d5 ρ5 e5
          cases e2
          exact ⟨F3, ρ3, I3, .rm d5, ρ', e5, fun p us σ6 H6 F6 x6 I6 a1 a2 a3 r6 => q p us σ6 H6 F6 (x4.trans x6) I6 a1 a2 a3 r6⟩
        · cases e2
      · rename_i ρ3 e3
        cases e2
        exact ⟨F2, ρ2, I2, false, ρ', e3, fun H3 F3 x3 I3 => iteF (q σ2 H3 F3 (x2.trans x3) I3)⟩
      · cases e2
end
end VS

set_option Elab.async false
set_option linter.all false
set_option maxRecDepth 100000
set_option maxHeartbeats 4000000
namespace VS
open PySem PySem.Spec PyProof.Rows L2

/-! a block within a def (a comprehension's): one's own lists are borrowed, what is not borrowed stays -/
def toB : Sl → Sl
  | .own xs => .bor xs
  | .slf _ _ => .no
  | .dic _ _ _ => .no
  | s => s
def wipeR (ρ : Rho) : List Nat → Rho
  | [] => ρ
  | v :: vs => (wipeR ρ vs).set v .no
def blkR (ix : List Nat) (ρ : Rho) : Rho := wipeR (ρ.map toB) ix
def restore : Rho → Rho → Option Rho
  | [], [] => some []
  | .own _ :: r, .bor ys :: r' => (restore r r').map (.own ys :: ·)
  | .bor _ :: r, .bor ys :: r' => (restore r r').map (.bor ys :: ·)
  | .own _ :: _, _ => none
  | .bor _ :: _, _ => none
  | s :: r, _ :: r' => (restore r r').map (s :: ·)
  | _, _ => none
/-- no slot of one's own among the targets -/
def okT (ix : List Nat) (ρ : Rho) : Bool := ix.all fun i => match ρ[i]? with
  | some (.own _) => false
  | some (.bor _) => false
  | _ => true
def turnC (t : Tg) (tt : SB) (e : SE) (d : D) (ρ : Rho) : Option (Option D × Rho) := if okT t.ix ρ = true then match tgt t d (blkR t.ix ρ) with
  | some ρ1 => match tt ρ1 with
    | some (true, ρ2) => match e ρ2 with
      | some (x, ρ3) => (restore ρ ρ3).map fun r => (some x, r)
      | none => none
    | some (false, ρ2) => (restore ρ ρ2).map fun r => (none, r)
    | none => none
  | none => none
  else none
theorem okT_no {ix : List Nat} {ρ : Rho} (h : okT ix ρ = true) {i : Nat} {xs : List D} (hx : ρ[i]? = some (.own xs) ∨ ρ[i]? = some (.bor xs)) : i ∉ ix := fun hi => by
  have z := List.all_eq_true.mp h i hi
  rcases hx with hx | hx <;> (rw [hx] at z; cases z)
def cLoop (t : Tg) (tt : SB) (e : SE) : List D → Rho → Option (List D × Rho)
  | [], ρ => some ([], ρ)
  | d :: r, ρ => match turnC t tt e d ρ with
    | some (some x, ρ1) => match cLoop t tt e r ρ1 with
      | some (xs, ρ2) => some (x :: xs, ρ2)
      | none => none
    | some (none, ρ1) => cLoop t tt e r ρ1
    | none => none
def sComp (it : SI) (t : Tg) (tt : SB) (e : SE) : SE := fun ρ => match it ρ with
  | some (ds, ρ1) => match cLoop t tt e ds ρ1 with
    | some (out, ρ2) => if out.length ≤ LN then some (.lst out, ρ2) else none
    | none => none
  | none => none
def bYes : SB := fun ρ => some (true, ρ)

theorem wipeR_length (ρ : Rho) : ∀ vs, (wipeR ρ vs).length = ρ.length
  | [] => rfl
  | v :: vs => by unfold wipeR; rw [List.length_set, wipeR_length ρ vs]
theorem wipeR_get (ρ : Rho) : ∀ (vs : List Nat) (j : Nat), (wipeR ρ vs)[j]? = if j ∈ vs then (if j < ρ.length then some .no else none) else ρ[j]?
  | [], j => by simp [wipeR]
  | v :: vs, j => by
    unfold wipeR
    by_cases hv : v = j
    · subst hv
      by_cases hl : v < ρ.length
      · rw [List.getElem?_set_self (by rw [wipeR_length]; exact hl)]; simp [hl]
      · rw [List.getElem?_eq_none (by rw [List.length_set, wipeR_length]; omega)]; simp [hl]
    · rw [List.getElem?_set_ne hv, wipeR_get ρ vs j]
      have : (j ∈ v :: vs) ↔ j ∈ vs := by simp [Ne.symm hv]
      simp only [this]
theorem wipe_get (σ : L2.St) : ∀ (vs : List Nat) (j : Nat), (wipe σ vs)[j]? = if j ∈ vs then (if j < σ.length then some none else none) else σ[j]?
  | [], j => by simp [wipe]
  | v :: vs, j => by
    unfold wipe
    by_cases hv : v = j
    · subst hv
      by_cases hl : v < σ.length
      · rw [List.getElem?_set_self (by rw [wipe_length]; exact hl)]; simp [hl]
      · rw [List.getElem?_eq_none (by rw [List.length_set, wipe_length]; omega)]; simp [hl]
    · rw [List.getElem?_set_ne hv, wipe_get σ vs j]
      have : (j ∈ v :: vs) ↔ j ∈ vs := by simp [Ne.symm hv]
      simp only [this]
theorem blkR_get {ix : List Nat} {ρ : Rho} {j : Nat} {s : Sl} (h : (blkR ix ρ)[j]? = some s) : (s = .no ∧ j < ρ.length) ∨ (j ∉ ix ∧ ∃ s0, ρ[j]? = some s0 ∧ s = toB s0) := by
  unfold blkR at h
  rw [wipeR_get] at h
  by_cases hj : j ∈ ix
  · rw [if_pos hj] at h
    split at h
    · rename_i hl
      cases h
      rw [List.length_map] at hl
      exact .inl ⟨rfl, hl⟩
    · cases h
  · rw [if_neg hj, List.getElem?_map] at h
    cases e : ρ[j]? with
    | none => rw [e] at h; cases h
    | some s0 => rw [e] at h; cases h; exact .inr ⟨hj, s0, rfl, rfl⟩
/-- the addresses of the slots that may change -/
def mutA (σ : L2.St) (ρ : Rho) : List Addr := (List.range ρ.length).filterMap fun i => match ρ[i]?, σ[i]? with
  | some (.own _), some (some (V.ref p)) => some p
  | some (.bor _), some (some (V.ref p)) => some p
  | _, _ => none
theorem mem_mutA {σ : L2.St} {ρ : Rho} {p : Addr} : p ∈ mutA σ ρ ↔ ∃ (i : Nat) (xs : List D), (ρ[i]? = some (.own xs) ∨ ρ[i]? = some (.bor xs)) ∧ σ[i]? = some (some (V.ref p)) := by
  unfold mutA
  rw [List.mem_filterMap]
  constructor
  · rintro ⟨i, hi, h⟩
    split at h
    · rename_i xs q h1 h2; cases h; exact ⟨i, xs, .inl h1, h2⟩
    · rename_i xs q h1 h2; cases h; exact ⟨i, xs, .inr h1, h2⟩
    · cases h
  · rintro ⟨i, xs, h1, h2⟩
    have hi : i < ρ.length := by rcases h1 with h1 | h1 <;> exact (List.getElem?_eq_some_iff.mp h1).1
    refine ⟨i, List.mem_range.mpr hi, ?_⟩
    rcases h1 with h1 | h1 <;> rw [h1, h2]
section
variable {c : Ctx} {X : Cx}
/-- into a block -/
theorem Ok.enter {F H : Hp} {σ : L2.St} {ρ : Rho} (I : Ok c F H σ ρ) (ix : List Nat) : Ok ⟨c.G, F, H, mutA σ ρ⟩ F H (wipe σ ix) (blkR ix ρ) where
  len := by unfold blkR; rw [wipe_length, wipeR_length, List.length_map]; exact I.len
  f0 := Ext.rfl'
  fh := I.fh
  fr := fun p o h _ _ => h
  al := fun p o h => ⟨o, h⟩
  n0 := fun p o _ h => h
  sl := fun j s hs => by
    rcases blkR_get hs with ⟨h1, h2⟩ | ⟨h1, s0, h2, h3⟩
    · subst h1
      have hj : j < (wipe σ ix).length := by rw [wipe_length, I.len]; exact h2
      exact ⟨_, List.getElem?_eq_getElem hj, by cases (wipe σ ix)[j] <;> trivial⟩
    · obtain ⟨ov, g1, g2⟩ := I.sl j s0 h2
      refine ⟨ov, by rw [wipe_get, if_neg h1]; exact g1, ?_⟩
      subst h3
      cases s0 with
      | no => cases ov <;> trivial
      | val d =>
        cases ov with
        | none => exact g2
        | some v => exact g2
      | lam g0 =>
        cases ov with
        | none => exact g2
        | some v => exact g2
      | slf k fs => cases ov <;> trivial
      | dic b k fs => cases ov <;> trivial
      | own xs =>
        cases ov with
        | none => exact g2
        | some v =>
          obtain ⟨p, e, a1, a2, vs, a3, a4⟩ := g2
          exact ⟨p, e, mem_mutA.mpr ⟨j, xs, .inl h2, by rw [g1, e]⟩, a2, vs, a3, a4⟩
      | bor xs =>
        cases ov with
        | none => exact g2
        | some v =>
          obtain ⟨p, e, a1, a2, vs, a3, a4⟩ := g2
          exact ⟨p, e, mem_mutA.mpr ⟨j, xs, .inr h2, by rw [g1, e]⟩, a2, vs, a3, a4⟩
  ap := fun i j s t p q hi hj ms mt hp hq e => by
    rcases blkR_get hi with ⟨h1, _⟩ | ⟨h1, s0, h2, h3⟩
    · subst h1; cases ms
    · rcases blkR_get hj with ⟨h1', _⟩ | ⟨h1', t0, h2', h3'⟩
      · subst h1'; cases mt
      · rw [wipe_get, if_neg h1] at hp
        rw [wipe_get, if_neg h1'] at hq
        subst h3 h3'
        refine I.ap i j s0 t0 p q h2 h2' ?_ ?_ hp hq e
        · cases s0 <;> first | rfl | cases ms
        · cases t0 <;> first | rfl | cases mt
  hb := fun p hp => by
    obtain ⟨i, xs, h1, h2⟩ := mem_mutA.mp hp
    have : conM ρ i = some xs := by unfold conM; rcases h1 with h1 | h1 <;> rw [h1]
    obtain ⟨p', vs, g1, g2, _⟩ := I.own this
    rw [h2] at g1; cases g1
    exact ⟨_, g2⟩
  tb := I.tb
theorem restore_get : ∀ {ρ ρ' r : Rho} {i : Nat} {s : Sl}, restore ρ ρ' = some r → r[i]? = some s →
    ∃ s0, ρ[i]? = some s0 ∧ ((s = s0 ∧ (∀ xs, s0 ≠ .own xs ∧ s0 ≠ .bor xs)) ∨ ∃ xs ys, ρ'[i]? = some (.bor ys) ∧ ((s0 = .own xs ∧ s = .own ys) ∨ (s0 = .bor xs ∧ s = .bor ys)))
  | [], [], r, i, s, h, hs => by unfold restore at h; cases h; simp at hs
  | [], _ :: _, _, _, _, h, _ => by simp [restore] at h
  | s0 :: ρ, [], _, _, _, h, _ => by cases s0 <;> simp [restore] at h
  | s0 :: ρ, s1 :: ρ', r, i, s, h, hs => by
    have go : ∀ (x : Sl), (restore ρ ρ').map (x :: ·) = some r → ((x = s0 ∧ (∀ xs, s0 ≠ .own xs ∧ s0 ≠ .bor xs)) ∨ ∃ xs ys, s1 = .bor ys ∧ ((s0 = .own xs ∧ x = .own ys) ∨ (s0 = .bor xs ∧ x = .bor ys))) →
        ∃ s2, (s0 :: ρ)[i]? = some s2 ∧ ((s = s2 ∧ (∀ xs, s2 ≠ .own xs ∧ s2 ≠ .bor xs)) ∨ ∃ xs ys, (s1 :: ρ')[i]? = some (.bor ys) ∧ ((s2 = .own xs ∧ s = .own ys) ∨ (s2 = .bor xs ∧ s = .bor ys))) := fun x hx hq => by
      cases e : restore ρ ρ' with
      | none => rw [e] at hx; cases hx
      | some r0 =>
        rw [e] at hx; cases hx
        cases i with
        | zero =>
          simp at hs; subst hs
          refine ⟨s0, rfl, ?_⟩
          rcases hq with hq | ⟨xs, ys, h1, h2⟩
          · exact .inl hq
          · exact .inr ⟨xs, ys, by subst h1; rfl, h2⟩
        | succ i => simpa using restore_get e (by simpa using hs)
    cases s0 with
    | own xs =>
      cases s1 with
      | bor ys => exact go (.own ys) (by simpa [restore] using h) (.inr ⟨xs, ys, rfl, .inl ⟨rfl, rfl⟩⟩)
      | _ => simp [restore] at h
    | bor xs =>
      cases s1 with
      | bor ys => exact go (.bor ys) (by simpa [restore] using h) (.inr ⟨xs, ys, rfl, .inr ⟨rfl, rfl⟩⟩)
      | _ => simp [restore] at h
    | no => exact go .no (by cases s1 <;> simpa [restore] using h) (.inl ⟨rfl, fun xs => ⟨nofun, nofun⟩⟩)
    | val d => exact go (.val d) (by cases s1 <;> simpa [restore] using h) (.inl ⟨rfl, fun xs => ⟨nofun, nofun⟩⟩)
    | lam g0 => exact go (.lam g0) (by cases s1 <;> simpa [restore] using h) (.inl ⟨rfl, fun xs => ⟨nofun, nofun⟩⟩)
    | slf k fs => exact go (.slf k fs) (by cases s1 <;> simpa [restore] using h) (.inl ⟨rfl, fun xs => ⟨nofun, nofun⟩⟩)
    | dic b k fs => exact go (.dic b k fs) (by cases s1 <;> simpa [restore] using h) (.inl ⟨rfl, fun xs => ⟨nofun, nofun⟩⟩)
theorem restore_len : ∀ {ρ ρ' r : Rho}, restore ρ ρ' = some r → r.length = ρ.length
  | [], [], r, h => by unfold restore at h; cases h; rfl
  | [], _ :: _, _, h => by simp [restore] at h
  | s0 :: ρ, [], _, h => by cases s0 <;> simp [restore] at h
  | s0 :: ρ, s1 :: ρ', r, h => by
    have go : ∀ (x : Sl), (restore ρ ρ').map (x :: ·) = some r → r.length = (s0 :: ρ).length := fun x hx => by
      cases e : restore ρ ρ' with
      | none => rw [e] at hx; cases hx
      | some r0 => rw [e] at hx; cases hx; simp [restore_len e]
    cases s0 with
    | own xs =>
      cases s1 with
      | bor ys => exact go (.own ys) (by simpa [restore] using h)
      | _ => simp [restore] at h
    | bor xs =>
      cases s1 with
      | bor ys => exact go (.bor ys) (by simpa [restore] using h)
      | _ => simp [restore] at h
    | no => exact go .no (by cases s1 <;> simpa [restore] using h)
    | val d => exact go (.val d) (by cases s1 <;> simpa [restore] using h)
    | lam g0 => exact go (.lam g0) (by cases s1 <;> simpa [restore] using h)
    | slf k fs => exact go (.slf k fs) (by cases s1 <;> simpa [restore] using h)
    | dic b k fs => exact go (.dic b k fs) (by cases s1 <;> simpa [restore] using h)
/-- out of a block: σ' is the block's frame, the slots ix its own -/
theorem Ok.leave {F H F' H' : Hp} {σ σ' : L2.St} {ρ ρ' r : Rho} {ix : List Nat} (I : Ok c F H σ ρ) (J : Ok ⟨c.G, F, H, mutA σ ρ⟩ F' H' σ' ρ') (hw : wipe σ' ix = wipe σ ix) (hr : restore ρ ρ' = some r)
    (hix : ∀ (i : Nat) (xs ys : List D), (ρ[i]? = some (.own xs) ∨ ρ[i]? = some (.bor xs)) → ρ'[i]? = some (.bor ys) → i ∉ ix) : Ok c F' H' σ r := by
  have notB : ∀ p o, c.H0 p = some o → p ∉ c.B → p ∉ mutA σ ρ := fun p o h1 h2 h3 => by
    obtain ⟨i, xs, g1, g2⟩ := mem_mutA.mp h3
    rcases g1 with g1 | g1
    · obtain ⟨ov, k1, k2⟩ := I.sl i _ g1
      rw [g2] at k1; cases k1
      obtain ⟨q, e, a1, _⟩ := k2
      cases e
      rw [h1] at a1; cases a1
    · obtain ⟨ov, k1, k2⟩ := I.sl i _ g1
      rw [g2] at k1; cases k1
      obtain ⟨q, e, a1, _⟩ := k2
      cases e
      exact h2 a1
  have notL : ∀ (j : Nat) (xs : List D) (q : Addr), (ρ[j]? = some (.own xs) ∨ ρ[j]? = some (.bor xs)) → σ[j]? = some (some (V.ref q)) → ∀ o, H q = some o → ¬ LamL o := fun j xs q k1 k2 o e => by
    have : conM ρ j = some xs := by unfold conM; rcases k1 with k1 | k1 <;> rw [k1]
    obtain ⟨p', us', g1, g2, _⟩ := I.own this
    rw [k2] at g1; cases g1
    rw [g2] at e
    cases e
    exact nl_lst
  refine ⟨by rw [restore_len hr]; exact I.len, I.f0.trans J.f0, J.fh, fun p o h1 h2 h3 => J.fr p o (I.fr p o h1 h2 h3) (notB p o h1 h2) h3, fun p o h1 => ?_, fun p o h1 h2 => ?_, fun i s hs => ?_, fun i j s t p q hi hj ms mt hp hq e => ?_, I.hb, J.tb⟩
  · obtain ⟨o', e⟩ := I.al p o h1
    exact J.al p o' e
  · obtain ⟨o', e⟩ := I.al p o h1
    exact J.n0 p o' e (I.n0 p o h1 h2)
  · obtain ⟨s0, h1, h2⟩ := restore_get hr hs
    obtain ⟨ov, g1, g2⟩ := I.sl i s0 h1
    refine ⟨ov, g1, ?_⟩
    have bor : ∀ xs ys, (ρ[i]? = some (.own xs) ∨ ρ[i]? = some (.bor xs)) → ρ'[i]? = some (.bor ys) → ∀ p, ov = some (V.ref p) → F' p = none ∧ ∃ vs, H' p = some (.lst vs) ∧ Reps c.G F' vs ys := fun xs ys hx hy p hp => by
      have hni := hix i xs ys hx hy
      obtain ⟨ov', k1, k2⟩ := J.sl i _ hy
      have e1 : σ'[i]? = σ[i]? := by
        have := congrArg (fun l => l[i]?) hw
        simp only [wipe_get, if_neg hni] at this
        exact this
      rw [e1, g1, hp] at k1
      cases k1
      obtain ⟨q, e, _, a2, vs, a3, a4⟩ := k2
      cases e
      exact ⟨a2, vs, a3, a4⟩
    rcases h2 with ⟨h2, h3⟩ | ⟨xs, ys, h2, ⟨h3, h4⟩ | ⟨h3, h4⟩⟩
    · subst h2
      cases s with
      | no => cases ov <;> trivial
      | val d =>
        cases ov with
        | none => exact g2
        | some v => exact Rep.ext J.f0 g2
      | lam g0 =>
        cases ov with
        | none => exact g2
        | some v => exact (let ⟨f1, z1, z2⟩ := g2; ⟨f1, z1, z2.move J.f0 fun q0 u0 e1 e2 => ⟨J.fr q0 u0 e1 (fun hm => by obtain ⟨j, xs, k1, k2⟩ := mem_mutA.mp hm; exact notL j xs q0 k1 k2 u0 e1 e2) e2.nt, fun e3 => J.n0 q0 u0 e1 e3⟩⟩)
      | own xs => exact absurd rfl (h3 xs).1
      | bor xs => exact absurd rfl (h3 xs).2
      | slf k fs =>
        cases ov with
        | none => exact g2
        | some v =>
          obtain ⟨p, e, a1, a2, dx, us, a3, a4, a5⟩ := g2
          have np : p ∉ mutA σ ρ := fun hm => by
            obtain ⟨j, xs, k1, k2⟩ := mem_mutA.mp hm
            have z : i = j := by
              rcases k1 with k1 | k1
              · exact I.ap i j _ _ p p h1 k1 rfl rfl (by rw [g1, e]) k2 rfl
              · exact I.ap i j _ _ p p h1 k1 rfl rfl (by rw [g1, e]) k2 rfl
            subst z
            rcases k1 with k1 | k1 <;> (rw [h1] at k1; cases k1)
          exact ⟨p, e, a1, J.n0 p _ a3 a2, dx, us, J.fr p _ a3 np nt_ins, a4, a5.ext J.f0⟩
      | dic b k fs =>
        cases ov with
        | none => exact g2
        | some v =>
          obtain ⟨p, e, a1, a2, us, a3, a5⟩ := g2
          have np : p ∉ mutA σ ρ := fun hm => by
            obtain ⟨j, xs, k1, k2⟩ := mem_mutA.mp hm
            have z : i = j := by
              rcases k1 with k1 | k1
              · exact I.ap i j _ _ p p h1 k1 rfl rfl (by rw [g1, e]) k2 rfl
              · exact I.ap i j _ _ p p h1 k1 rfl rfl (by rw [g1, e]) k2 rfl
            subst z
            rcases k1 with k1 | k1 <;> (rw [h1] at k1; cases k1)
          obtain ⟨o, a4⟩ := DicAt.ob a3
          exact ⟨p, e, a1, J.n0 p _ a4 a2, us, DicAt.keep J.f0 (fun o' z nt => J.fr p o' z np nt) a3, a5.ext J.f0⟩
    · subst h3 h4
      cases ov with
      | none => exact g2
      | some v =>
        obtain ⟨p, e, a1, _⟩ := g2
        obtain ⟨b1, b2⟩ := bor xs ys (.inl h1) h2 p (by rw [e])
        exact ⟨p, e, a1, b1, b2⟩
    · subst h3 h4
      cases ov with
      | none => exact g2
      | some v =>
        obtain ⟨p, e, a1, _⟩ := g2
        obtain ⟨b1, b2⟩ := bor xs ys (.inr h1) h2 p (by rw [e])
        exact ⟨p, e, a1, b1, b2⟩
  · have mu : ∀ (i : Nat) (s : Sl), r[i]? = some s → s.mut = true → ∃ s0, ρ[i]? = some s0 ∧ s0.mut = true := fun i s hs hm => by
      obtain ⟨s0, h1, h2⟩ := restore_get hr hs
      refine ⟨s0, h1, ?_⟩
      rcases h2 with ⟨h2, _⟩ | ⟨xs, ys, _, ⟨h3, _⟩ | ⟨h3, _⟩⟩
      · subst h2; exact hm
      · subst h3; rfl
      · subst h3; rfl
    obtain ⟨s0, k1, k2⟩ := mu i s hi ms
    obtain ⟨t0, k3, k4⟩ := mu j t hj mt
    exact I.ap i j s0 t0 p q k1 k3 k2 k4 hp hq e
/-- what is no slot's may be written, or become data -/
theorem Ok.other {F H : Hp} {σ : L2.St} {ρ : Rho} {p : Addr} {us : List V} (I : Ok c F H σ ρ) (hp : H p = some (.lst us)) (hF : F p = none) (h0 : c.H0 p = none) (ap : p ∉ mutA σ ρ) (o : HO) : Ok c F (upd H p o) σ ρ := by
  have nF : ∀ q u, F q = some u → q ≠ p := fun q u e z => by subst z; rw [hF] at e; cases e
  have n0 : ∀ q u, c.H0 q = some u → q ≠ p := fun q u e z => by subst z; rw [h0] at e; cases e
  refine ⟨I.len, I.f0, fun q u e => by rw [upd_ne (nF q u e)]; exact I.fh q u e, fun q u e1 e2 e3 => by rw [upd_ne (n0 q u e1)]; exact I.fr q u e1 e2 e3, fun q u e => by rw [upd_ne (n0 q u e)]; exact I.al q u e, I.n0, fun i s hs => ?_, I.ap, I.hb, ⟨tabs_upd I.tb.t hp nt_lst nc_lst, I.tb.n⟩⟩
  obtain ⟨ov, h1, h2⟩ := I.sl i s hs
  refine ⟨ov, h1, ?_⟩
  cases s with
  | no => cases ov <;> trivial
  | val d => cases ov <;> exact h2
  | lam g0 =>
    cases ov with
    | none => exact h2
    | some v => exact let ⟨f1, z1, z2⟩ := h2; ⟨f1, z1, z2.move Ext.rfl' fun q0 u0 e1 e2 => ⟨by rw [upd_ne (fun z => by subst z; rw [hp] at e1; cases e1; exact nl_lst e2)]; exact e1, id⟩⟩
  | own xs =>
    cases ov with
    | none => exact h2
    | some v =>
      obtain ⟨q, e, a1, a2, vs, a3, a4⟩ := h2
      have : q ≠ p := fun z => ap (mem_mutA.mpr ⟨i, xs, .inl hs, by rw [h1, e, z]⟩)
      exact ⟨q, e, a1, a2, vs, by rw [upd_ne this]; exact a3, a4⟩
  | bor xs =>
    cases ov with
    | none => exact h2
    | some v =>
      obtain ⟨q, e, a1, a2, vs, a3, a4⟩ := h2
      have : q ≠ p := fun z => ap (mem_mutA.mpr ⟨i, xs, .inr hs, by rw [h1, e, z]⟩)
      exact ⟨q, e, a1, a2, vs, by rw [upd_ne this]; exact a3, a4⟩
  | slf k fs =>
    cases ov with
    | none => exact h2
    | some v =>
      obtain ⟨q, e, a1, a2, dx, vs, a3, a4, a5⟩ := h2
      have : q ≠ p := fun z => by subst z; rw [hp] at a3; cases a3
      exact ⟨q, e, a1, a2, dx, vs, by rw [upd_ne this]; exact a3, a4, a5⟩
  | dic b k fs =>
    cases ov with
    | none => exact h2
    | some v =>
      obtain ⟨q, e, a1, a2, vs, a3, a5⟩ := h2
      have : q ≠ p := fun z => by
        subst z
        cases b with
        | true => obtain ⟨xs, d⟩ := a3; have := d.at_; rw [hp] at this; unfold rawO at this; cases this
        | false => obtain ⟨kvs, d, _⟩ := a3; rw [hp] at d; cases d
      exact ⟨q, e, a1, a2, vs, DicAt.ext Ext.rfl' (fun o' z => by rw [upd_ne this]; exact z) a3, a5⟩
theorem Ok.seal {F H : Hp} {σ : L2.St} {ρ : Rho} {p : Addr} {us : List V} (I : Ok c F H σ ρ) (hp : H p = some (.lst us)) (hF : F p = none) (h0 : c.H0 p = none) (ap : p ∉ mutA σ ρ) : Ok c (upd F p (.lst us)) H σ ρ := by
  have ex : Ext F (upd F p (.lst us)) := Ext.upd hF
  refine ⟨I.len, I.f0.trans ex, fun q u e => ?_, I.fr, I.al, fun q u e1 e2 => ?_, fun i s hs => ?_, I.ap, I.hb, I.tb.seal hp nt_lst⟩
  · by_cases z : q = p
    · subst z; rw [upd_same] at e; cases e; exact hp
    · rw [upd_ne z] at e; exact I.fh q u e
  · have z : q ≠ p := fun z => by subst z; rw [h0] at e1; cases e1
    rw [upd_ne z]; exact I.n0 q u e1 e2
  obtain ⟨ov, h1, h2⟩ := I.sl i s hs
  refine ⟨ov, h1, ?_⟩
  cases s with
  | no => cases ov <;> trivial
  | val d =>
    cases ov with
    | none => exact h2
    | some v => exact Rep.ext ex h2
  | lam g0 =>
    cases ov with
    | none => exact h2
    | some v => exact (let ⟨f1, z1, z2⟩ := h2; ⟨f1, z1, z2.move ex fun q0 u0 e1 e2 => ⟨e1, fun e3 => by rw [upd_ne (fun z => by subst z; rw [hp] at e1; cases e1; exact nl_lst e2)]; exact e3⟩⟩)
  | own xs =>
    cases ov with
    | none => exact h2
    | some v =>
      obtain ⟨q, e, a1, a2, vs, a3, a4⟩ := h2
      have : q ≠ p := fun z => ap (mem_mutA.mpr ⟨i, xs, .inl hs, by rw [h1, e, z]⟩)
      exact ⟨q, e, a1, by rw [upd_ne this]; exact a2, vs, a3, a4.ext ex⟩
  | bor xs =>
    cases ov with
    | none => exact h2
    | some v =>
      obtain ⟨q, e, a1, a2, vs, a3, a4⟩ := h2
      have : q ≠ p := fun z => ap (mem_mutA.mpr ⟨i, xs, .inr hs, by rw [h1, e, z]⟩)
      exact ⟨q, e, a1, by rw [upd_ne this]; exact a2, vs, a3, a4.ext ex⟩
  | slf k fs =>
    cases ov with
    | none => exact h2
    | some v =>
      obtain ⟨q, e, a1, a2, dx, vs, a3, a4, a5⟩ := h2
      have : q ≠ p := fun z => by subst z; rw [hp] at a3; cases a3
      exact ⟨q, e, a1, by rw [upd_ne this]; exact a2, dx, vs, a3, a4, a5.ext ex⟩
  | dic b k fs =>
    cases ov with
    | none => exact h2
    | some v =>
      obtain ⟨q, e, a1, a2, vs, a3, a5⟩ := h2
      have : q ≠ p := fun z => by
        subst z
        cases b with
        | true => obtain ⟨xs, d⟩ := a3; have := d.at_; rw [hp] at this; unfold rawO at this; cases this
        | false => obtain ⟨kvs, d, _⟩ := a3; rw [hp] at d; cases d
      exact ⟨q, e, a1, by rw [upd_ne this]; exact a2, vs, DicAt.ext ex (fun _ z => z) a3, a5.ext ex⟩
end
end VS

set_option Elab.async false
set_option linter.all false
set_option maxRecDepth 100000
set_option maxHeartbeats 4000000
namespace VS
open PySem PySem.Spec PyProof.Rows L2

/-! list comprehensions -/
/-- a reading in some block's context -/
def vtX (G : Gx) (s : SE) : TE := fun σ H Q => ∃ F0 H0 B, vt ⟨G, F0, H0, B⟩ s σ H Q
def vbX (G : Gx) (s : SB) : TT := fun σ H Q => ∃ F0 H0 B, vb ⟨G, F0, H0, B⟩ s σ H Q
theorem pe_X {X : Cx} {G : Gx} {e : Expr} {s : SE} (h : ∀ F0 H0 B, PE X e (vt ⟨G, F0, H0, B⟩ s)) : PE X e (vtX G s) :=
  ⟨fun pins sh σ H Q I ⟨F0, H0, B, q⟩ => (h F0 H0 B).run pins sh σ H Q I q⟩
theorem pts_X {X : Cx} {G : Gx} {e : List Expr} {s : SB} (h : ∀ F0 H0 B, PTs X e (vb ⟨G, F0, H0, B⟩ s)) : PTs X e (vbX G s) :=
  ⟨fun pins sh σ H Q I ⟨F0, H0, B, q⟩ => (h F0 H0 B).run pins sh σ H Q I q⟩
theorem vts_nil {X : Cx} {c : Ctx} : PTs X [] (vb c bYes) := ⟨fun pins sh σ H Q I ⟨F, ρ, I', b, ρ', e, q⟩ => by
  cases e
  exact pts_nil.run pins sh σ H Q I (q H F Ext.rfl' I')⟩
theorem vts_one {X : Cx} {c : Ctx} {e : Expr} {s : SB} (h : PT X e (vb c s)) : PTs X [e] (vb c s) := pts_one h
theorem comp_w {c : Ctx} {K : PySem.W.Frag} {it : SI} {t : Tg} {tt : SB} {e : SE} (σ : L2.St) (H : Hp) (Q : VK) (h : vt c (sComp it t tt e) σ H Q) : tLc (vi c it) (gT K t) (vbX c.G tt) (vtX c.G e) t.ix σ H Q := by
  obtain ⟨F, ρ, I, d, ρ', hs, q⟩ := h
  unfold sComp at hs
  split at hs
  · rename_i ds ρ1 e1
    split at hs
    · rename_i out ρ2 e2
      split at hs
      · rename_i hlen
        cases hs
        refine ⟨F, ρ, I, ds, ρ1, e1, fun J H1 F1 x1 I1 y D hD => ?_⟩
        have I1' := I1.grow (Grow.raw (o := .lst []) I1.fh hD)
        have hDF : F1 D = none := ext_none I1.fh hD
        have hD0 : c.H0 D = none := by
          cases z : c.H0 D with
          | none => rfl
          | some o => obtain ⟨o', z'⟩ := I1.al D o z; rw [hD] at z'; cases z'
        have apart : ∀ p, p ∈ mutA σ ρ1 → p ≠ D := fun p hp z => by
          obtain ⟨i, xs, k1, k2⟩ := mem_mutA.mp hp
          have : conM ρ1 i = some xs := by unfold conM; rcases k1 with k1 | k1 <;> rw [k1]
          obtain ⟨p', vs, g1, g2, _⟩ := I1.own this
          rw [k2] at g1; cases g1
          rw [z, hD] at g2; cases g2
        refine ⟨fun i m H => m = ds.length - i ∧ i ≤ ds.length ∧ ∃ F2 ρ2' acc av rest, Ok c F2 H σ ρ2' ∧ Ext F1 F2 ∧ H D = some (.lst av) ∧ F2 D = none ∧ Reps c.G F2 av acc ∧ cLoop t tt e (ds.drop i) ρ2' = some (rest, ρ') ∧ acc ++ rest = out ∧ (∀ p, p ∈ mutA σ ρ2' → p ≠ D),
          ⟨ds.length, by simp, Nat.zero_le _, F1, ρ1, [], [], out, I1', Ext.rfl', upd_same, hDF, .nil, e2, rfl, apart⟩, ?_⟩
        rintro i m H2 ⟨rfl, hi, F2, ρ3, acc, av, rest, I2, x2, hD2, hF2, r2, l2, ho, ap2⟩
        obtain ⟨y1, y2⟩ := y F2 H2 x2 I2.fh
        by_cases hlt : i < ds.length
        · rw [List.drop_eq_getElem_cons hlt] at l2
          obtain ⟨g1, g2⟩ := y1 i ds[i] (by simp [hlt])
          refine .inr ⟨g1, fun H => i + 1 ≤ ds.length ∧ ∃ F2 ρ2' acc av rest, Ok c F2 H σ ρ2' ∧ Ext F1 F2 ∧ H D = some (.lst av) ∧ F2 D = none ∧ Reps c.G F2 av acc ∧ cLoop t tt e (ds.drop (i + 1)) ρ2' = some (rest, ρ') ∧ acc ++ rest = out ∧ (∀ p, p ∈ mutA σ ρ2' → p ≠ D), fun H' ⟨h1, h2⟩ => ⟨ds.length - (i + 1), by omega, rfl, h1, h2⟩, fun x H' yy => ?_⟩
          obtain ⟨F3, g3, r3⟩ := g2 x H' yy
          have I3 := I2.grow g3
          have J3 := I3.enter t.ix
          have hD3 : H' D = some (.lst av) := g3.h _ _ hD2
          have hF3 : F3 D = none := g3.n _ _ hD2 hF2
          have nD : D ∉ mutA σ ρ3 := fun z => ap2 D z rfl
          -- the turn's own semantics
          unfold cLoop at l2
          have turn : okT t.ix ρ3 = true ∧ ∃ ρ4 b ρ5, tgt t ds[i] (blkR t.ix ρ3) = some ρ4 ∧ tt ρ4 = some (b, ρ5) ∧ ((b = true ∧ ∃ x ρ6 r xs, e ρ5 = some (x, ρ6) ∧ restore ρ3 ρ6 = some r ∧ cLoop t tt e (ds.drop (i + 1)) r = some (xs, ρ') ∧ rest = x :: xs) ∨
              (b = false ∧ ∃ r, restore ρ3 ρ5 = some r ∧ cLoop t tt e (ds.drop (i + 1)) r = some (rest, ρ'))) := by
            unfold turnC at l2
            by_cases k0 : okT t.ix ρ3 = true
            case neg => rw [if_neg k0] at l2; cases l2
            rw [if_pos k0] at l2
            refine ⟨k0, ?_⟩
            cases k1 : tgt t ds[i] (blkR t.ix ρ3) with
            | none => rw [k1] at l2; cases l2
            | some ρ4 =>
              rw [k1] at l2
              dsimp only at l2
              cases k2 : tt ρ4 with
              | none => rw [k2] at l2; cases l2
              | some p2 =>
                obtain ⟨b, ρ5⟩ := p2
                rw [k2] at l2
                refine ⟨ρ4, b, ρ5, rfl, k2, ?_⟩
                cases b with
                | true =>
                  dsimp only at l2
                  cases k3 : e ρ5 with
                  | none => rw [k3] at l2; cases l2
                  | some p3 =>
                    obtain ⟨x, ρ6⟩ := p3
                    rw [k3] at l2
                    dsimp only at l2
                    cases k4 : restore ρ3 ρ6 with
                    | none => rw [k4] at l2; cases l2
                    | some r =>
                      rw [k4] at l2
                      dsimp only [Option.map] at l2
                      cases k5 : cLoop t tt e (ds.drop (i + 1)) r with
                      | none => rw [k5] at l2; cases l2
                      | some p5 =>
                        obtain ⟨xs, ρ7⟩ := p5
                        rw [k5] at l2
                        cases l2
                        exact .inl ⟨rfl, x, ρ6, r, xs, rfl, k4, k5, rfl⟩
                | false =>
                  dsimp only at l2
                  cases k4 : restore ρ3 ρ5 with
                  | none => rw [k4] at l2; cases l2
                  | some r =>
                    rw [k4] at l2
                    exact .inr ⟨rfl, r, rfl, l2⟩
          obtain ⟨k0, ρ4, b, ρ5, k1, k2, k3⟩ := turn
          refine tgt_w J3 r3 k1 fun σ4 J4 w4 => ?_
          have hw : wipe σ4 t.ix = wipe σ t.ix := by
            rw [w4 t.ix fun _ z => z]
            apply List.ext_getElem?
            intro j
            rw [wipe_get, wipe_get, wipe_length]
            by_cases hj : j ∈ t.ix
            · simp [hj]
            · simp [hj]
          refine ⟨?_, F3, H', mutA σ ρ3, F3, ρ4, J4, b, ρ5, k2, fun H5 F5 x5 J5 => ?_⟩
          · exact hw
          -- where a slot of the block is one of ours it is none of the targets
          have nix : ∀ {ρz : Rho} {Fz Hz : Hp}, Ok ⟨c.G, F3, H', mutA σ ρ3⟩ Fz Hz σ4 ρz → ∀ (j : Nat) (xs ys : List VS.D), (ρ3[j]? = some (.own xs) ∨ ρ3[j]? = some (.bor xs)) → ρz[j]? = some (.bor ys) → j ∉ t.ix :=
            fun _ j xs ys hx _ => okT_no k0 hx
          have fin : ∀ {ρz r : Rho} {Fz Hz : Hp}, Ok ⟨c.G, F3, H', mutA σ ρ3⟩ Fz Hz σ4 ρz → restore ρ3 ρz = some r → Ok c Fz Hz σ r ∧ Hz D = some (.lst av) ∧ Fz D = none ∧ Ext F3 Fz ∧ (∀ p, p ∈ mutA σ r → p ≠ D) := fun {ρz r Fz Hz} Jz hr => by
            refine ⟨I3.leave Jz hw hr (nix Jz), Jz.fr _ _ hD3 nD nt_lst, Jz.n0 _ _ hD3 hF3, Jz.f0, fun p hp => ?_⟩
            obtain ⟨j, xs, m1, m2⟩ := mem_mutA.mp hp
            refine ap2 p (mem_mutA.mpr ?_)
            rcases m1 with m1 | m1
            · obtain ⟨s0, z1, z2⟩ := restore_get hr m1
              rcases z2 with ⟨z2, z3⟩ | ⟨zs, ys, _, ⟨z3, _⟩ | ⟨_, z4⟩⟩
              · exact absurd z2.symm (z3 _).1
              · exact ⟨j, zs, .inl (by rw [z1, z3]), m2⟩
              · cases z4
            · obtain ⟨s0, z1, z2⟩ := restore_get hr m1
              rcases z2 with ⟨z2, z3⟩ | ⟨zs, ys, _, ⟨_, z4⟩ | ⟨z3, _⟩⟩
              · exact absurd z2.symm (z3 _).2
              · cases z4
              · exact ⟨j, zs, .inr (by rw [z1, z3]), m2⟩
          rcases k3 with ⟨rfl, x, ρ6, r, xs, j1, j2, j3, j4⟩ | ⟨rfl, r, j2, j3⟩
          · refine iteT ⟨F3, H', mutA σ ρ3, F5, ρ5, J5, x, ρ6, j1, fun v H6 F6 x6 J6 r6 => ?_⟩
            obtain ⟨I6, hD6, hF6, x36, ap6⟩ := fin J6 j2
            have ra : Reps c.G F6 av acc := (r2.ext g3.f).ext x36
            have hz : av.length < sizeLine := by
              rw [ra.length]
              have : acc.length < out.length := by rw [← ho, j4]; simp
              have := ln_fit hlen
              omega
            refine ⟨av, hD6, hz, hlt, F6, r, acc ++ [x], av ++ [v], xs, ?_, (x2.trans g3.f).trans x36, upd_same, hF6, ra.append (.one r6), j3, by rw [← ho, j4]; simp, ap6⟩
            exact I6.other hD6 hF6 hD0 (fun z => ap6 _ z rfl) _
          · refine iteF ?_
            obtain ⟨I5, hD5, hF5, x35, ap5⟩ := fin J5 j2
            exact ⟨hlt, F5, r, acc, av, rest, I5, (x2.trans g3.f).trans x35, hD5, hF5, (r2.ext g3.f).ext x35, j3, ho, ap5⟩
        · have hi' : i = ds.length := by omega
          subst hi'
          rw [List.drop_length] at l2
          unfold cLoop at l2
          cases l2
          rw [List.append_nil] at ho
          subst ho
          refine .inl ⟨y2, ?_⟩
          exact q _ H2 _ ((x1.trans x2).trans (Ext.upd hF2)) (I2.seal hD2 hF2 hD0 fun z => ap2 _ z rfl) (.lst upd_same (r2.ext (Ext.upd hF2)))
      · cases hs
    · cases hs
  · cases hs
section
variable {c : Ctx} {X : Cx}
/-- [elt for tg in iter if ..]; he, ht for whatever context -/
theorem ve_lc {elt tg iter : Expr} {ifs : List Expr} {scope : Scope} {own : List (Str × Nat)} {pos : Pos} {it : SI} {tt : SB} {e : SE} (t : Tg) (hc : X.calm = true) (hN : X.N.Nodup) (hi : PI X tg iter (vi c it)) (ok : BlkOk X.N X.env.scope scope own) (hix : own.map (·.2) = t.ix)
    (hg : ∀ (s : Shared) (H : Hp) (C : Addr) (cl : List (Str × Addr)) (fp : List Addr), PG (X.blk s H scope (compEnvC scope cl C X.env) fp) tg (gT X.K t))
    (ht : ∀ (s : Shared) (H : Hp) (C : Addr) (cl : List (Str × Addr)) (fp : List Addr) (F0 H0 : Hp) (B : List Addr), PTs (X.blk s H scope (compEnvC scope cl C X.env) fp) ifs (vb ⟨c.G, F0, H0, B⟩ tt))
    (he : ∀ (s : Shared) (H : Hp) (C : Addr) (cl : List (Str × Addr)) (fp : List Addr) (F0 H0 : Hp) (B : List Addr), PE (X.blk s H scope (compEnvC scope cl C X.env) fp) elt (vt ⟨c.G, F0, H0, B⟩ e))
    (hs : ∀ x, foldedSetIterable iter X.env x = pure x := by intro _; rfl) : PE X (.ListComp elt [⟨tg, iter, ifs, 0⟩] scope pos) (vt c (sComp it t tt e)) :=
  pe_of (pe_lc hc hN hi ok hg (fun s H C cl fp => pts_X (ht s H C cl fp)) (fun s H C cl fp => pe_X (he s H C cl fp)) hs) fun σ H Q q => by
    rw [hix]
    exact comp_w σ H Q q
/-- name = [..] on one line, the name a plain local -/
theorem vs_setLc {i : Nat} {y : Str} {py : Pos} {elt tg iter : Expr} {ifs : List Expr} {scope : Scope} {own : List (Str × Nat)} {pos spos : Pos} {it : SI} {tt : SB} {e : SE} (t : Tg) (hc : X.calm = true) (hN : X.N.Nodup)
    (hi : PI X tg iter (vi c it)) (ok : BlkOk X.N X.env.scope scope own) (hix : own.map (·.2) = t.ix)
    (hg : ∀ (s : Shared) (H : Hp) (C : Addr) (cl : List (Str × Addr)) (fp : List Addr), PG (X.blk s H scope (compEnvC scope cl C X.env) fp) tg (gT X.K t))
    (ht : ∀ (s : Shared) (H : Hp) (C : Addr) (cl : List (Str × Addr)) (fp : List Addr) (F0 H0 : Hp) (B : List Addr), PTs (X.blk s H scope (compEnvC scope cl C X.env) fp) ifs (vb ⟨c.G, F0, H0, B⟩ tt))
    (he : ∀ (s : Shared) (H : Hp) (C : Addr) (cl : List (Str × Addr)) (fp : List Addr) (F0 H0 : Hp) (B : List Addr), PE (X.blk s H scope (compEnvC scope cl C X.env) fp) elt (vt ⟨c.G, F0, H0, B⟩ e))
    (hsw : swapsWith (.ListComp elt [⟨tg, iter, ifs, 0⟩] scope pos) (some (.Name y py)) spos.line X.env = pure true)
    (hy : X.N[i]? = some y := by rfl) (hyl : X.env.scope.names.lookup y = some .local := by rfl)
    (hs : ∀ x, foldedSetIterable iter X.env x = pure x := by intro _; rfl) : PS X (.Assign [.Name y py] (.ListComp elt [⟨tg, iter, ifs, 0⟩] scope pos) spos) (vs c (kSet i (sComp it t tt e))) :=
  ps_of (ps_setLc hc hN hy hyl hsw hi ok hg (fun s H C cl fp => pts_X (ht s H C cl fp)) (fun s H C cl fp => pe_X (he s H C cl fp)) hs) fun σ H E q => by
    obtain ⟨F, ρ, I, fl, ρ', e1, q⟩ := q
    unfold kSet at e1
    split at e1
    · rename_i d ρ1 e2
      cases e1
      rw [hix]
      exact comp_w σ H _ ⟨F, ρ, I, d, ρ1, e2, fun v H1 F1 x1 I1 r1 => q _ _ _ x1 (I1.put i r1)⟩
    · cases e1
end
end VS

set_option Elab.async false
set_option linter.all false
set_option maxRecDepth 100000
set_option maxHeartbeats 4000000
namespace VS
open PySem PySem.Spec PyProof.Rows L2

/-! lists of one's own -/
def isFr (ρ : Rho) (i : Nat) : Bool := decide (i < ρ.length)
/-- name = [e, ..], to be changed -/
def kOwn (i : Nat) (a : SA) : SS := fun ρ => match a ρ with
  | some (xs, ρ1) => if xs.length ≤ LN then some (.nx, ρ1.set i (.own xs)) else none
  | none => none
/-- name.append(e) -/
def kApp (i : Nat) (e : SE) : SS := fun ρ => match conM ρ i with
  | none => none
  | some _ => match e ρ with
    | some (d, ρ1) => match conM ρ1 i with
      | some xs => if xs.length < LN then some (.nx, setM ρ1 i (xs ++ [d])) else none
      | none => none
    | none => none
/-- name[k] = e -/
def kPut (i : Nat) (k e : SE) : SS := fun ρ => match e ρ with
  | some (d, ρ1) => match conM ρ1 i with
    | none => none
    | some _ => match k ρ1 with
      | some (.int j, ρ2) => match conM ρ2 i with
        | some xs => match ixN xs.length j with
          | some n => some (.nx, setM ρ2 i (xs.set n d))
          | none => none
        | none => none
      | _ => none
  | none => none
section
variable {c : Ctx} {X : Cx}
/-- a new object at p, held by slot i -/
theorem Ok.freshS {F H : Hp} {σ : L2.St} {ρ : Rho} {p : Addr} {o : HO} {s0 : Sl} (I : Ok c F H σ ρ) (hp : H p = none) (i : Nat) (ok : c.H0 p = none → F p = none → SlOk c F (upd H p o) (some (V.ref p)) s0) : Ok c F (upd H p o) (σ.set i (some (V.ref p))) (ρ.set i s0) := by
  have hF : F p = none := ext_none I.fh hp
  have h0 : c.H0 p = none := by
    cases z : c.H0 p with
    | none => rfl
    | some o => obtain ⟨o', z'⟩ := I.al p o z; rw [hp] at z'; cases z'
  have J := I.grow (Grow.raw (o := o) I.fh hp)
  have ap : ∀ (j : Nat) (s : Sl) (q : Addr), ρ[j]? = some s → s.mut = true → σ[j]? = some (some (V.ref q)) → q ≠ p := fun j s q hs hm hq z => by
    subst z
    obtain ⟨ov, h1, h2⟩ := I.sl j s hs
    rw [hq] at h1; cases h1
    cases s with
    | no => cases hm
    | val d => cases hm
    | lam g0 => cases hm
    | own ys => obtain ⟨q, e, _, _, vs, a3, _⟩ := h2; cases e; rw [hp] at a3; cases a3
    | bor ys => obtain ⟨q, e, _, _, vs, a3, _⟩ := h2; cases e; rw [hp] at a3; cases a3
    | slf k ys => obtain ⟨q, e, _, _, dx, vs, a3, _⟩ := h2; cases e; rw [hp] at a3; cases a3
    | dic b k ys => obtain ⟨q, e, _, _, vs, a3, _⟩ := h2; cases e; obtain ⟨o, a4⟩ := DicAt.ob a3; rw [hp] at a4; cases a4
  refine ⟨by rw [List.length_set, List.length_set]; exact I.len, J.f0, J.fh, J.fr, J.al, J.n0, fun j s hs => ?_, fun a b s t pa qb ha hb ms mt hpa hqb e => ?_, J.hb, J.tb⟩
  · by_cases hj : i = j
    · subst hj
      have hi : i < ρ.length := by
        have := (List.getElem?_eq_some_iff.mp hs).1
        rwa [List.length_set] at this
      rw [List.getElem?_set_self hi] at hs
      cases hs
      exact ⟨some (V.ref p), by rw [List.getElem?_set_self (by rw [I.len]; exact hi)], ok h0 hF⟩
    · rw [List.getElem?_set_ne hj] at hs
      obtain ⟨ov, h1, h2⟩ := J.sl j s hs
      exact ⟨ov, by rw [List.getElem?_set_ne hj]; exact h1, h2⟩
  · by_cases ia : i = a
    · by_cases ib : i = b
      · exact ia.symm.trans ib
      · subst ia
        have hl : i < σ.length := by
          have := (List.getElem?_eq_some_iff.mp hpa).1
          rwa [List.length_set] at this
        rw [List.getElem?_set_self hl] at hpa
        cases hpa
        rw [List.getElem?_set_ne ib] at hb hqb
        exact absurd e.symm (ap b t qb hb mt hqb)
    · rw [List.getElem?_set_ne ia] at ha hpa
      by_cases ib : i = b
      · subst ib
        have hl : i < σ.length := by
          have := (List.getElem?_eq_some_iff.mp hqb).1
          rwa [List.length_set] at this
        rw [List.getElem?_set_self hl] at hqb
        cases hqb
        exact absurd e (ap a s pa ha ms hpa)
      · rw [List.getElem?_set_ne ib] at hb hqb
        exact I.ap a b s t pa qb ha hb ms mt hpa hqb e
/-- a new list at p, held by slot i -/
theorem Ok.fresh {F H : Hp} {σ : L2.St} {ρ : Rho} {p : Addr} {us : List V} {xs : List D} (I : Ok c F H σ ρ) (hp : H p = none) (r : Reps c.G F us xs) (i : Nat) : Ok c F (upd H p (.lst us)) (σ.set i (some (V.ref p))) (ρ.set i (.own xs)) :=
  I.freshS hp i fun h0 hF => ⟨p, rfl, h0, hF, us, upd_same, r⟩
/-- a slot's list has changed in place -/
theorem Ok.changed {F H : Hp} {σ : L2.St} {ρ : Rho} {i : Nat} {xs ys : List D} {p : Addr} {us ws : List V} (I : Ok c F H σ ρ) (hx : conM ρ i = some xs) (hσ : σ[i]? = some (some (V.ref p))) (hp : H p = some (.lst us)) (hF : F p = none) (r : Reps c.G F ws ys) :
    Ok c F (upd H p (.lst ws)) σ (setM ρ i ys) := by
  refine I.lent hx hσ ⟨Ext.rfl', fun q o e => ?_, fun q o e n _ => ?_, fun q o e => ?_, fun q o _ n => n, fun tb => ⟨tabs_upd tb.t hp nt_lst nc_lst, tb.n⟩⟩ hF upd_same r
  · have : q ≠ p := fun z => by subst z; rw [hF] at e; cases e
    rw [upd_ne this]; exact I.fh q o e
  · have : q ≠ p := fun z => n (by rw [z]; exact List.mem_singleton.mpr rfl)
    rw [upd_ne this]; exact e
  · by_cases z : q = p
    · subst z; exact ⟨_, upd_same⟩
    · exact ⟨o, by rw [upd_ne z]; exact e⟩
theorem vs_own {i : Nat} {x : Str} {es : List Expr} {a : SA} {p1 pos pos' : Pos} (hN : X.N.Nodup) (ha : PA X es (va c a)) (hi : X.N[i]? = some x := by rfl) (hx : Loc X.env.scope x := by first | exact Or.inl rfl | exact Or.inr rfl) (hs : swapsWith (.List es p1) (some (.Name x pos')) pos.line X.env = pure false := by rfl) (hf : X.fn x = true ∨ X.env.scope.names.lookup x = some .local := by first | exact .inl rfl | exact .inr rfl) :
    PS X (.Assign [.Name x pos'] (.List es p1) pos) (vs c (kOwn i a)) :=
  ps_of (ps_set hN hi hx (pe_lst ha) hs hf) fun σ H E ⟨F, ρ, I, fl, ρ', e, q⟩ => by
    unfold kOwn at e
    split at e
    · rename_i xs ρ1 e1
      split at e
      · rename_i hl
        cases e
        refine ⟨F, ρ, I, xs, ρ1, e1, fun us H1 F1 x1 I1 r1 => ⟨by rw [r1.length]; exact ln_fit hl, fun p hp => ?_⟩⟩
        exact q _ _ _ x1 (I1.fresh hp r1 i)
      · cases e
    · cases e
theorem vs_app {i : Nat} {x : Str} {e : Expr} {s : SE} {p0 apos cpos pos : Pos} (h : PE X (.Name x p0) (tVar i)) (he : PE X e (vt c s))
    (hbase : attributeBase (.Name x p0) "append" X.env (eval (.Name x p0) X.env) = eval (.Name x p0) X.env := by rfl)
    (hfew : ((backTo cpos (starEach [e] X.env)).all (fun x => !x.1) && (backToKw cpos (keywordEach [] X.env)).all (fun x => x.1.isSome)
      && decide ([e].length + ([] : List Keyword).length + (if ([] : List Keyword).isEmpty then 0 else 1) < 30)) = true := by rfl)
    (hline : (apos.endLine == cpos.line) = true := by rfl) (hst : starEach [e] X.env = (false, eval e X.env) :: starEach [] X.env := by rfl) (hpl : (backTo cpos (starEach [] X.env)).any (·.1) = false := by rfl)
    (hs : swapsWith (.Call (.Attribute (.Name x p0) "append" apos) [e] [] cpos) none pos.line X.env = pure false := by rfl) :
    PS X (.Expr (.Call (.Attribute (.Name x p0) "append" apos) [e] [] cpos) pos) (vs c (kApp i s)) :=
  ps_of (ps_expr (pe_bm PySem.F.plainAttrs_list PySem.F.slot_list_append PySem.F.type_list_append (id := "list.append") (fun pins s σ H x xs v us Q I rx rv q => mt_append pins s σ H x xs v us Q I rx rv q) h (pa_cons he pa_nil hst) hbase hfew hline hst hpl) hs) fun σ H E ⟨F, ρ, I, fl, ρ', e, q⟩ => by
    unfold kApp at e
    split at e
    · cases e
    · rename_i xs0 e0
      obtain ⟨p, us0, g1, g2, _⟩ := I.own e0
      split at e
      · rename_i d ρ1 e1
        split at e
        · rename_i xs e2
          split at e
          · rename_i hl
            cases e
            refine ⟨_, g1, .inl ⟨rfl, _, .of g2⟩, F, ρ, I, d, ρ1, e1, fun v H1 F1 x1 I1 r1 => ?_⟩
            obtain ⟨p', us, k1, k2, k3, k4⟩ := I1.own e2
            rw [g1] at k1; cases k1
            refine ⟨_, us, v, rfl, rfl, k2, by rw [k4.length]; exact Nat.lt_of_lt_of_le hl (ln_fit (Nat.le_refl _)), ?_⟩
            exact q _ _ _ x1 (I1.changed e2 g1 k2 k3 (k4.append (.one r1)))
          · cases e
        · cases e
      · cases e
theorem Reps.setAt {G : Gx} {F : Hp} {vs : List V} {ds : List D} {v : V} {d : D} (r : Reps G F vs ds) (h : Rep G F v d) (n : Nat) : Reps G F (vs.set n v) (ds.set n d) := Reps.set h n r
theorem vs_put {i : Nat} {x : Str} {k e : Expr} {sk s : SE} {p0 tpos pos : Pos} (h : PE X (.Name x p0) (tVar i)) (hk : PE X k (vt c sk)) (he : PE X e (vt c s))
    (ha : ∀ v, assign (.Subscript (.Name x p0) k tpos) X.env v = (do
      let ov ← holding [v] (eval (.Name x p0) X.env)
      let iv ← holding [v, ov] (eval k X.env)
      standAt tpos
      holding [v, ov, iv] (setItem ov iv v)
      release [v, ov, iv] []) := by intro _; rfl)
    (hs : swapsWithSole [.Subscript (.Name x p0) k tpos] e pos.line X.env = pure false := by rfl) (hw : swappedStores [.Subscript (.Name x p0) k tpos] e X.env = pure none := by rfl)
    (h1 : (assignEach [.Subscript (.Name x p0) k tpos] X.env).map (·.2) = [assign (.Subscript (.Name x p0) k tpos) X.env] := by rfl) :
    PS X (.Assign [.Subscript (.Name x p0) k tpos] e pos) (vs c (kPut i sk s)) :=
  ps_of (ps_asg he (pg_sub h hk set_list ha) hs hw h1) fun σ H E ⟨F, ρ, I, fl, ρ', e, q⟩ => by
    unfold kPut at e
    split at e
    · rename_i d ρ1 e1
      split at e
      · cases e
      · rename_i xs0 e0
        split at e
        · rename_i j ρ2 e2
          split at e
          · rename_i xs e3
            split at e
            · rename_i n e4
              cases e
              refine ⟨F, ρ, I, d, ρ1, e1, fun v H1 F1 x1 I1 r1 => ?_⟩
              obtain ⟨p, us0, g1, g2, _⟩ := I1.own e0
              refine ⟨_, g1, F1, ρ1, I1, _, ρ2, e2, fun w H2 F2 x2 I2 r2 => ?_⟩
              cases r2
              obtain ⟨p', us, k1, k2, k3, k4⟩ := I2.own e3
              rw [g1] at k1; cases k1
              refine ⟨_, us, j, n, rfl, rfl, k2, by rw [k4.length]; exact e4, ?_⟩
              exact q _ _ _ (x1.trans x2) (I2.changed e3 g1 k2 k3 (k4.setAt (r1.ext x2) n))
            · cases e
          · cases e
        · cases e
    · cases e
/-! a, b = .. -/
/-- a tuple's items -/
def kTup (is : List Nat) (e : SE) : SS := fun ρ => match e ρ with
  | some (.tup ds, ρ1) => match sets is ds ρ1 with
    | some ρ2 => some (.nx, ρ2)
    | none => none
  | _ => none
theorem vs_tup {es : List Expr} {k : Nat} {e : Expr} {s : SE} {tpos pos : Pos} (is : List Nat) (he : PE X e (vt c s)) (hg : PG X (.Tuple es k tpos) (gT X.K (.tp is)))
    (hs : swapsWithSole [.Tuple es k tpos] e pos.line X.env = pure false := by rfl) (hw : swappedStores [.Tuple es k tpos] e X.env = pure none := by rfl) (h1 : (assignEach [.Tuple es k tpos] X.env).map (·.2) = [assign (.Tuple es k tpos) X.env] := by rfl) :
    PS X (.Assign [.Tuple es k tpos] e pos) (vs c (kTup is s)) :=
  ps_of (ps_asg he hg hs hw h1) fun σ H E ⟨F, ρ, I, fl, ρ', e, q⟩ => by
    unfold kTup at e
    split at e
    · rename_i ds ρ1 e1
      split at e
      · rename_i ρ2 e2
        cases e
        exact ⟨F, ρ, I, _, ρ1, e1, fun v H1 F1 x1 I1 r1 => tgt_w (t := .tp is) I1 r1 e2 fun σ' I' _ => q _ _ _ x1 I'⟩
      · cases e
    · cases e
/-- plain local names: stored without a tuple -/
def kPar (is : List Nat) (a : SA) : SS := fun ρ => match a ρ with
  | some (ds, ρ1) => match sets is ds ρ1 with
    | some ρ2 => some (.nx, ρ2)
    | none => none
  | none => none
theorem vs_par2 {i j : Nat} {x y : Str} {a b : Expr} {sa : SA} {px py pt pos : Pos} {kt k2 pt2} (hc : X.calm = true) (hN : X.N.Nodup) (ha : PA X [a, b] (va c sa)) (hw : swappedStores [.Tuple [.Name x px, .Name y py] kt pt] (.Tuple [a, b] k2 pt2) X.env = pure (some [x, y]))
    (hi : X.N[i]? = some x := by rfl) (hj : X.N[j]? = some y := by rfl) (hij : i ≠ j := by decide)
    (hx : X.env.scope.names.lookup x = some .local := by rfl) (hy : X.env.scope.names.lookup y = some .local := by rfl)
    (hs : swapsWithSole [.Tuple [.Name x px, .Name y py] kt pt] (.Tuple [a, b] k2 pt2) pos.line X.env = pure false := by rfl) :
    PS X (.Assign [.Tuple [.Name x px, .Name y py] kt pt] (.Tuple [a, b] k2 pt2) pos) (vs c (kPar [i, j] sa)) :=
  ps_of (ps_par hc hN hi hj hij hx hy ha hw hs) fun σ H E ⟨F, ρ, I, fl, ρ', e, q⟩ => by
    unfold kPar at e
    split at e
    · rename_i ds ρ1 e1
      split at e
      · rename_i ρ2 e2
        cases e
        refine ⟨F, ρ, I, ds, ρ1, e1, fun us H1 F1 x1 I1 r1 => ?_⟩
        have hl := sets_len e2
        match ds, hl, e2, r1 with
        | [d1, d2], _, e2, r1 =>
          obtain ⟨v, v', ev, r, r'⟩ := reps2 r1
          refine ⟨v, v', ev, ?_⟩
          simp only [sets] at e2
          cases e2
          exact q _ _ _ x1 ((I1.put i r).put j r')
      · cases e
    · cases e
theorem vs_par3 {i j l : Nat} {x y z : Str} {a b d : Expr} {sa : SA} {px py pz pt pos : Pos} {kt k2 pt2} (hc : X.calm = true) (hN : X.N.Nodup) (ha : PA X [a, b, d] (va c sa)) (hw : swappedStores [.Tuple [.Name x px, .Name y py, .Name z pz] kt pt] (.Tuple [a, b, d] k2 pt2) X.env = pure (some [x, y, z]))
    (hi : X.N[i]? = some x := by rfl) (hj : X.N[j]? = some y := by rfl) (hl : X.N[l]? = some z := by rfl) (hij : i ≠ j := by decide) (hil : i ≠ l := by decide) (hjl : j ≠ l := by decide)
    (hx : X.env.scope.names.lookup x = some .local := by rfl) (hy : X.env.scope.names.lookup y = some .local := by rfl) (hz : X.env.scope.names.lookup z = some .local := by rfl)
    (hs : swapsWithSole [.Tuple [.Name x px, .Name y py, .Name z pz] kt pt] (.Tuple [a, b, d] k2 pt2) pos.line X.env = pure false := by rfl) :
    PS X (.Assign [.Tuple [.Name x px, .Name y py, .Name z pz] kt pt] (.Tuple [a, b, d] k2 pt2) pos) (vs c (kPar [i, j, l] sa)) :=
  ps_of (ps_par3 hc hN hi hj hl hij hil hjl hx hy hz ha hw hs) fun σ H E ⟨F, ρ, I, fl, ρ', e, q⟩ => by
    unfold kPar at e
    split at e
    · rename_i ds ρ1 e1
      split at e
      · rename_i ρ2 e2
        cases e
        refine ⟨F, ρ, I, ds, ρ1, e1, fun us H1 F1 x1 I1 r1 => ?_⟩
        have hl := sets_len e2
        match ds, hl, e2, r1 with
        | [d1, d2, d3], _, e2, r1 =>
          obtain ⟨v, v', v2, ev, r, r', r2⟩ := reps3 r1
          refine ⟨v, v', v2, ev, ?_⟩
          simp only [sets] at e2
          cases e2
          exact q _ _ _ x1 (((I1.put i r).put j r').put l r2)
      · cases e
    · cases e
/-- found, b = [..], e: the first one to be changed -/
def kParO (i j : Nat) (a : SA) (e : SE) : SS := fun ρ => match a ρ with
  | some (xs, ρ1) => if xs.length ≤ LN then match e ρ1 with
    | some (d, ρ2) => some (.nx, (ρ2.set j (.val d)).set i (.own xs))
    | none => none
    else none
  | none => none
end
end VS

set_option Elab.async false
set_option linter.all false
set_option maxRecDepth 100000
set_option maxHeartbeats 4000000
namespace VS
open PySem PySem.Spec PyProof.Rows L2

/-! a def that hands back a new list, to be changed by its caller -/
def kRetL (a : SA) : SS := fun ρ => match a ρ with
  | some (xs, ρ1) => if xs.length ≤ LN then some (.rm xs, ρ1) else none
  | none => none
abbrev MirM := List Sl → Option (List D)
def mirM (n : Nat) (s : SS) : MirM := fun sl => match s (sl ++ List.replicate (n - sl.length) .no) with
  | some (.rm xs, _) => some xs
  | _ => none
def spM (G : Gx) (n : Nat) (m : MirM) : Sp := fun vs H Q _ => ∃ F ds, Ext F H ∧ TbOk G.T F H ∧ Reps G F vs ds ∧ ds.length = n ∧ ∃ xs, m (ds.map .val) = some xs ∧
  ∀ p us H' F', Keep G.T [] F H F' H' → H p = none → F' p = none → H' p = some (.lst us) → Reps G F' us xs → Q (.ref p) H'
structure CalM (P : Program) (w : World) (G : Gx) (mg : Str → Option Value) (base : Heap) (x : Str) (k n : Nat) (m : MirM) : Prop where
  ex : ∃ (f : Addr) (fd : FuncData) (ps : List Str), mg x = some (.ref f) ∧ PySem.W.keepIn G.K (.ref f) = true ∧ Binds G.K fd ps [] ∧ FnOk P w G.K mg base CX0 k f fd ps (spM G n m)
theorem fn_okM {P : Program} {w : World} {G : Gx} {mg : Str → Option Value} {base : Heap} {x qual : Str} {st : Stmt} {f : Addr} {fd : FuncData} {N ps : List Str} {k : Nat} {s : SS} (F : Fun G.K x qual st f fd) (S : FnScope N ps (defScope st))
    (hb : ∀ (c : Ctx) (cdv : Value) (A : Around) (outer : List Env) (sh : Shared) (H : Hp) (E : XK), c.G = G → Room k (A.deeper (envOfC qual (defScope st) sh.heap.objs.size f cdv)) →
      PSs (cxOf CX0 P w G.K mg base N qual (defScope st) f cdv A outer sh H E).nox (defBody st) (vs c s)) :
    FnOk P w G.K mg base CX0 (k + 1) f fd ps (spM G ps.length (mirM N.length s)) := by
  refine F.ok S (fun us H Q E h => ?_) (fun cdv A outer sh H us Q E hr h => ?_)
  · obtain ⟨F0, ds, _, _, a, hn, _⟩ := h
    rw [a.length, hn]
  · obtain ⟨F0, ds, e, tb, a, hn, xs, hm, q⟩ := h
    refine ⟨vs ⟨G, F0, H, []⟩ s, hb _ cdv A outer sh H E rfl hr, ?_⟩
    unfold mirM at hm
    split at hm
    · rename_i xs' ρ h1
      cases hm
      have hl := a.length
      refine ⟨F0, _, (by have := ok_start e tb (.vals a) (N.length - (ds.map Sl.val).length); unfold L2.start; rw [hl, ← List.length_map (f := Sl.val) (as := ds)]; exact this), .rm xs, ρ, h1, ?_⟩
      exact fun p us σ H' F' x I a1 a2 a3 r => q p us H' F' ⟨I.f0, I.fh, fun p o h n m => I.fr p o h n m, I.al, I.n0, fun _ => I.tb⟩ a1 a2 a3 r
    · cases hm
section
variable {c : Ctx} {X : Cx}
theorem vs_retL {es : List Expr} {a : SA} {p1 pos : Pos} (ha : PA X es (va c a)) : PS X (.Return (some (.List es p1)) pos) (vs c (kRetL a)) :=
  ps_of (ps_ret (pe_lst ha)) fun σ H E ⟨F, ρ, I, fl, ρ', e, q⟩ => by
    unfold kRetL at e
    split at e
    · rename_i xs ρ1 e1
      split at e
      · rename_i hl
        cases e
        refine ⟨F, ρ, I, xs, ρ', e1, fun us H1 F1 x1 I1 r1 => ⟨by rw [r1.length]; exact ln_fit hl, fun p hp => ?_⟩⟩
        have h0 : c.H0 p = none := by
          cases z : c.H0 p with
          | none => rfl
          | some o => obtain ⟨o', z'⟩ := I1.al p o z; rw [hp] at z'; cases z'
        exact q p us σ _ F1 x1 (I1.grow (Grow.raw I1.fh hp)) h0 (ext_none I1.fh hp) upd_same r1
      · cases e
    · cases e
/-- name = f(..), the new list to be changed -/
def kOwnC (i n : Nat) (m : MirM) (a : SA) : SS := fun ρ => match a ρ with
  | some (xs, ρ1) => if xs.length = n then match m (xs.map .val) with
    | some ys => some (.nx, ρ1.set i (.own ys))
    | none => none
    else none
  | none => none
/-- a slot gets a new list that stands at p -/
theorem Ok.take {F H : Hp} {σ : L2.St} {ρ : Rho} {p : Addr} {us : List V} {xs : List D} (I : Ok c F H σ ρ) (hF : F p = none) (hp : H p = some (.lst us)) (h0 : c.H0 p = none) (ap : ∀ (j : Nat) (s : Sl) (q : Addr), ρ[j]? = some s → s.mut = true → σ[j]? = some (some (V.ref q)) → q ≠ p) (r : Reps c.G F us xs) (i : Nat) :
    Ok c F H (σ.set i (some (V.ref p))) (ρ.set i (.own xs)) := by
  refine ⟨by rw [List.length_set, List.length_set]; exact I.len, I.f0, I.fh, I.fr, I.al, I.n0, fun j s hs => ?_, fun a b s t pa qb ha hb ms mt hpa hqb e => ?_, I.hb, I.tb⟩
  · by_cases hj : i = j
    · subst hj
      have hi : i < ρ.length := by
        have := (List.getElem?_eq_some_iff.mp hs).1
        rwa [List.length_set] at this
      rw [List.getElem?_set_self hi] at hs
      cases hs
      exact ⟨some (V.ref p), by rw [List.getElem?_set_self (by rw [I.len]; exact hi)], p, rfl, h0, hF, us, hp, r⟩
    · rw [List.getElem?_set_ne hj] at hs
      obtain ⟨ov, h1, h2⟩ := I.sl j s hs
      exact ⟨ov, by rw [List.getElem?_set_ne hj]; exact h1, h2⟩
  · by_cases ia : i = a
    · by_cases ib : i = b
      · exact ia.symm.trans ib
      · subst ia
        have hl : i < σ.length := by
          have := (List.getElem?_eq_some_iff.mp hpa).1
          rwa [List.length_set] at this
        rw [List.getElem?_set_self hl] at hpa
        cases hpa
        rw [List.getElem?_set_ne ib] at hb hqb
        exact absurd e.symm (ap b t qb hb mt hqb)
    · rw [List.getElem?_set_ne ia] at ha hpa
      by_cases ib : i = b
      · subst ib
        have hl : i < σ.length := by
          have := (List.getElem?_eq_some_iff.mp hqb).1
          rwa [List.length_set] at this
        rw [List.getElem?_set_self hl] at hqb
        cases hqb
        exact absurd e (ap a s pa ha ms hpa)
      · rw [List.getElem?_set_ne ib] at hb hqb
        exact I.ap a b s t pa qb ha hb ms mt hpa hqb e
/-- what is no address of the heap is no slot's -/
theorem Ok.no_slot {F H : Hp} {σ : L2.St} {ρ : Rho} (I : Ok c F H σ ρ) {p : Addr} (hp : H p = none) : ∀ (j : Nat) (s : Sl) (q : Addr), ρ[j]? = some s → s.mut = true → σ[j]? = some (some (V.ref q)) → q ≠ p := fun j s q hs hm hq z => by
  subst z
  obtain ⟨ov, h1, h2⟩ := I.sl j s hs
  rw [hq] at h1; cases h1
  cases s with
  | no => cases hm
  | val d => cases hm
  | lam g0 => cases hm
  | own ys => obtain ⟨q, e, _, _, vs, a3, _⟩ := h2; cases e; rw [hp] at a3; cases a3
  | bor ys => obtain ⟨q, e, _, _, vs, a3, _⟩ := h2; cases e; rw [hp] at a3; cases a3
  | slf k ys => obtain ⟨q, e, _, _, dx, vs, a3, _⟩ := h2; cases e; rw [hp] at a3; cases a3
  | dic b k ys => obtain ⟨q, e, _, _, vs, a3, _⟩ := h2; cases e; obtain ⟨o, a4⟩ := DicAt.ob a3; rw [hp] at a4; cases a4
theorem Ok.no_H0 {F H : Hp} {σ : L2.St} {ρ : Rho} (I : Ok c F H σ ρ) {p : Addr} (hp : H p = none) : c.H0 p = none := by
  cases z : c.H0 p with
  | none => rfl
  | some o => obtain ⟨o', z'⟩ := I.al p o z; rw [hp] at z'; cases z'
theorem vs_ownC {i : Nat} {x f : Str} {e : Expr} {es : List Expr} {a : SA} {k n : Nat} {m : MirM} {p cpos pos pos' : Pos} (C : CalM X.prog X.w c.G X.mg X.base f k n m) (hK : X.K = c.G.K) (hr : Room k X.A) (hN : X.N.Nodup) (ha : PA X (e :: es) (va c a)) (hg : Gl X f := by rfl) (hdb : (f == ("__debug__" : Str)) = false := by decide)
    (he : starEach (e :: es) X.env = (false, eval e X.env) :: starEach es X.env := by rfl) (hpl : (backTo cpos (starEach es X.env)).any (·.1) = false := by rfl)
    (hi : X.N[i]? = some x := by rfl) (hx : Loc X.env.scope x := by first | exact Or.inl rfl | exact Or.inr rfl) (hs : swapsWith (.Call (.Name f p) (e :: es) [] cpos) (some (.Name x pos')) pos.line X.env = pure false := by rfl) (hf : X.fn x = true ∨ X.env.scope.names.lookup x = some .local := by first | exact .inl rfl | exact .inr rfl) :
    PS X (.Assign [.Name x pos'] (.Call (.Name f p) (e :: es) [] cpos) pos) (vs c (kOwnC i n m a)) := by
  obtain ⟨fa, fd, ps, hm, hk, hb, hF⟩ := C.ex
  rw [← hK] at hk hb hF
  refine ps_of (ps_set hN hi hx (pe_call hF hr hg hm hk hb .nil pass0 ha hdb he hpl) hs hf) fun σ H E ⟨F, ρ, I, fl, ρ', e, q⟩ => ?_
  unfold kOwnC at e
  split at e
  · rename_i xs ρ1 e1
    split at e
    · rename_i hn
      split at e
      · rename_i ys e2
        cases e
        refine ⟨F, ρ, I, xs, ρ1, e1, fun us H1 F1 x1 I1 r1 => ?_⟩
        show spM c.G n m (us ++ []) H1 _ E0
        rw [List.append_nil]
        refine ⟨F1, xs, I1.fh, I1.tb, r1, hn, ys, e2, fun p ws H2 F2 k2 h1 h2 h3 r2 => ?_⟩
        exact q _ H2 F2 (x1.trans k2.f) ((keep_lift I1 k2).take h2 h3 (I1.no_H0 h1) (I1.no_slot h1) r2 i)
      · cases e
    · cases e
  · cases e

/-! x, found = e, [..] and found, x = [..], e -/
def kParR (i j : Nat) (e : SE) (a : SA) : SS := fun ρ => match e ρ with
  | some (d, ρ1) => match a ρ1 with
    | some (xs, ρ2) => if xs.length ≤ LN then some (.nx, (ρ2.set i (.val d)).set j (.own xs)) else none
    | none => none
  | none => none
theorem vs_parR {i j : Nat} {x y : Str} {a : Expr} {es : List Expr} {s : SE} {sa : SA} {px py pt p1 pos : Pos} {kt k2 pt2} (hc : X.calm = true) (hN : X.N.Nodup) (ha : PE X a (vt c s)) (hl : PA X es (va c sa)) (hw : swappedStores [.Tuple [.Name x px, .Name y py] kt pt] (.Tuple [a, .List es p1] k2 pt2) X.env = pure (some [x, y]))
    (hi : X.N[i]? = some x := by rfl) (hj : X.N[j]? = some y := by rfl) (hij : i ≠ j := by decide)
    (hx : X.env.scope.names.lookup x = some .local := by rfl) (hy : X.env.scope.names.lookup y = some .local := by rfl)
    (h1 : starEach [a, .List es p1] X.env = (false, eval a X.env) :: starEach [.List es p1] X.env := by rfl) (h2 : starEach [.List es p1] X.env = (false, eval (.List es p1) X.env) :: starEach [] X.env := by rfl)
    (hs : swapsWithSole [.Tuple [.Name x px, .Name y py] kt pt] (.Tuple [a, .List es p1] k2 pt2) pos.line X.env = pure false := by rfl) :
    PS X (.Assign [.Tuple [.Name x px, .Name y py] kt pt] (.Tuple [a, .List es p1] k2 pt2) pos) (vs c (kParR i j s sa)) :=
  ps_of (ps_par hc hN hi hj hij hx hy (pa_cons ha (pa_cons (pe_lst hl) pa_nil h2) h1) hw hs) fun σ H E ⟨F, ρ, I, fl, ρ', e, q⟩ => by
    unfold kParR at e
    split at e
    · rename_i d ρ1 e1
      split at e
      · rename_i xs ρ2 e2
        split at e
        · rename_i hl
          cases e
          refine ⟨F, ρ, I, d, ρ1, e1, fun v H1 F1 x1 I1 r1 => ⟨F1, ρ1, I1, xs, ρ2, e2, fun us H2 F2 x2 I2 r2 => ⟨by rw [r2.length]; exact ln_fit hl, fun p hp => ⟨v, .ref p, rfl, ?_⟩⟩⟩⟩
          exact q _ _ _ (x1.trans x2) ((I2.put i (r1.ext x2)).fresh hp r2 j)
        · cases e
      · cases e
    · cases e
def kParL (i j : Nat) (a : SA) (e : SE) : SS := fun ρ => match a ρ with
  | some (xs, ρ1) => if xs.length ≤ LN then match e (blkR [] ρ1) with
    | some (d, ρ2) => match restore ρ1 ρ2 with
      | some r => some (.nx, (r.set j (.val d)).set i (.own xs))
      | none => none
    | none => none
    else none
  | none => none
theorem vs_parL {i j : Nat} {x y : Str} {a : Expr} {es : List Expr} {s : SE} {sa : SA} {px py pt p1 pos : Pos} {kt k2 pt2} (hc : X.calm = true) (hN : X.N.Nodup) (hl : PA X es (va c sa)) (ha : ∀ F0 H0 B, PE X a (vt ⟨c.G, F0, H0, B⟩ s)) (hw : swappedStores [.Tuple [.Name x px, .Name y py] kt pt] (.Tuple [.List es p1, a] k2 pt2) X.env = pure (some [x, y]))
    (hi : X.N[i]? = some x := by rfl) (hj : X.N[j]? = some y := by rfl) (hij : i ≠ j := by decide)
    (hx : X.env.scope.names.lookup x = some .local := by rfl) (hy : X.env.scope.names.lookup y = some .local := by rfl)
    (h1 : starEach [.List es p1, a] X.env = (false, eval (.List es p1) X.env) :: starEach [a] X.env := by rfl) (h2 : starEach [a] X.env = (false, eval a X.env) :: starEach [] X.env := by rfl)
    (hs : swapsWithSole [.Tuple [.Name x px, .Name y py] kt pt] (.Tuple [.List es p1, a] k2 pt2) pos.line X.env = pure false := by rfl) :
    PS X (.Assign [.Tuple [.Name x px, .Name y py] kt pt] (.Tuple [.List es p1, a] k2 pt2) pos) (vs c (kParL i j sa s)) :=
  ps_of (ps_par hc hN hi hj hij hx hy (pa_cons (pe_lst hl) (pa_cons (pe_X ha) pa_nil h2) h1) hw hs) fun σ H E ⟨F, ρ, I, fl, ρ', e, q⟩ => by
    unfold kParL at e
    split at e
    · rename_i xs ρ1 e1
      split at e
      · rename_i hl
        split at e
        · rename_i d ρ2 e2
          split at e
          · rename_i r e3
            cases e
            refine ⟨F, ρ, I, xs, ρ1, e1, fun us H1 F1 x1 I1 r1 => ⟨by rw [r1.length]; exact ln_fit hl, fun p hp => ?_⟩⟩
            have h0 := I1.no_H0 hp
            have hF := ext_none I1.fh hp
            have I2 := I1.grow (Grow.raw (o := .lst us) I1.fh hp)
            have J := I2.enter []
            have np : p ∉ mutA σ ρ1 := fun hm => by
              obtain ⟨j, zs, k1, k2⟩ := mem_mutA.mp hm
              rcases k1 with k1 | k1
              · exact I1.no_slot hp j _ p k1 rfl k2 rfl
              · exact I1.no_slot hp j _ p k1 rfl k2 rfl
            refine ⟨F1, _, mutA σ ρ1, F1, blkR [] ρ1, J, d, ρ2, e2, fun v H3 F3 x3 J3 r3 => ⟨.ref p, v, rfl, ?_⟩⟩
            have I3 := I2.leave J3 (rfl : wipe σ [] = wipe σ []) e3 (fun _ _ _ _ _ => by simp)
            have hp3 : H3 p = some (.lst us) := J3.fr p _ upd_same np nt_lst
            have hF3 : F3 p = none := J3.n0 p _ upd_same hF
            have sep : ∀ (j : Nat) (s : Sl) (q : Addr), r[j]? = some s → s.mut = true → σ[j]? = some (some (V.ref q)) → q ≠ p := fun j s q hs hm hq z => by
              obtain ⟨s0, z1, z2⟩ := restore_get e3 hs
              have m0 : s0.mut = true := by
                rcases z2 with ⟨z2, _⟩ | ⟨_, _, _, ⟨z3, _⟩ | ⟨z3, _⟩⟩
                · subst z2; exact hm
                · subst z3; rfl
                · subst z3; rfl
              exact I1.no_slot hp j s0 q z1 m0 hq z
            have rr := r1.ext x3
            have T := (I3.take hF3 hp3 h0 sep rr i).put j r3
            -- the order of the two stores
            have e5 : (σ.set i (some (V.ref p))).set j (some v) = (σ.set i (some (V.ref p))).set j (some v) := rfl
            have e6 : (r.set i (.own xs)).set j (.val d) = (r.set j (.val d)).set i (.own xs) := List.set_comm _ _ hij
            rw [e6] at T
            exact q _ _ _ (x1.trans x3) T
          · cases e
        · cases e
      · cases e
    · cases e
end
end VS

set_option Elab.async false
set_option linter.all false
set_option maxRecDepth 100000
set_option maxHeartbeats 8000000
namespace VS
open PySem PySem.Spec PyProof.Rows L2

/-! len(set(xs)), xs of ints or of texts -/
section
variable {κ : Type} [DecidableEq κ]
/-- the first i items, each once -/
def firsts (val : Nat → κ) : Nat → List κ
  | 0 => []
  | i + 1 => if val i ∈ firsts val i then firsts val i else firsts val i ++ [val i]
theorem firsts_le (val : Nat → κ) : ∀ i, (firsts val i).length ≤ i
  | 0 => Nat.le_refl _
  | i + 1 => by
    have := firsts_le val i
    unfold firsts
    split
    · omega
    · rw [List.length_append]; simp; omega
end
section
variable {κ : Type} [DecidableEq κ] [BEq κ] [LawfulBEq κ] {prog : Program} {w : World} {A : Around} {knd : KeyKind prog w κ}
/-- the update's loop, key by key -/
theorem upd_turns {R : Result → Shared → Prop} {it a : Addr} {fp wr : List Addr} {Gn : Array GenState → Array GenState → Prop} {n : Nat} {Pv : Nat → Value → Prop} {St : Nat → Shared → Prop}
    (W : WalksS prog w A.in1 it fp wr Gn n Pv St) (out : a ∉ fp) (val : Nat → κ) (keyed : ∀ i v, Pv i v → knd.is (val i) v = true ∧ v.scannable = true) (few : n + 1 < scanBound)
    (left : Nat) :
    ∀ (i : Nat) (s : Shared), left = n - i → i ≤ n → St i s → s.heap.SetOf knd a (fun k => decide (k ∈ firsts val i)) (firsts val i).length →
      (∀ s', Moved (a :: wr) Gn s s' → s'.heap.SetOf knd a (fun k => decide (k ∈ firsts val n)) (firsts val n).length → R (.ok (.ret .none)) s') →
      codeAny (model prog w) A (.builtin "set.update.loop" ⟨[.ref a, .ref it], []⟩) R s := by
  have outw : a ∉ wr := fun z => out (W.sub a z)
  have wide : ∀ b ∈ wr, b ∈ a :: wr := fun _ z => List.mem_cons_of_mem _ z
  induction left with
  | zero =>
    intro i s e1 e2 st hS fin
    obtain rfl : i = n := by omega
    refine codeAny_builtin PyProof.Rows.F.entry_set_update_loop ?_
    rw [Around.under_plainId PyProof.Rows.F.plain_set_update_loop _]
    change wpAny _ A.in1 (pyNext (.ref it) >>= _) _ _ s
    refine wpAny_bind (W.done s _ _ st ?_)
    intro s' mv
    have hS' : s'.heap.SetOf knd a (fun k => decide (k ∈ firsts val i)) (firsts val i).length := by
      rcases hS with ⟨o, es, ep, t, ho, more⟩
      exact ⟨o, es, ep, t, mv.heap a o outw ho, more⟩
    exact wpAny_pure (fin s' (mv.mono wide) hS')
  | succ left again =>
    intro i s e1 e2 st hS fin
    have lt : i < n := by omega
    refine codeAny_builtin PyProof.Rows.F.entry_set_update_loop ?_
    rw [Around.under_plainId PyProof.Rows.F.plain_set_update_loop _]
    change wpAny _ A.in1 (pyNext (.ref it) >>= _) _ _ s
    refine wpAny_bind (W.item i s _ _ lt st ?_)
    intro v s' hv st' mv
    obtain ⟨kv, sv⟩ := keyed i v hv
    have hS' : s'.heap.SetOf knd a (fun k => decide (k ∈ firsts val i)) (firsts val i).length := by
      rcases hS with ⟨o, es, ep, t, ho, more⟩
      exact ⟨o, es, ep, t, mv.heap a o outw ho, more⟩
    change wpAny _ A.in1 (holding [v] (setAdd a v) >>= _) _ _ s'
    refine wpAny_bind (wpAny_holding ?_)
    unfold setAdd
    refine wpAny_holding (wpAny_bind (knd.pyHash kv ?_))
    have room : (firsts val i).length + 1 < scanBound := by have := firsts_le val i; omega
    refine wpAny_setAddHashed_of (knd := knd) (s := { s' with toks := s'.toks + 1 }) kv sv hS' room ?_
    intro h' same hS2
    have e3 : (fun k => decide (k ∈ firsts val i) || decide (k = val i)) = fun k => decide (k ∈ firsts val (i + 1)) := by
      funext k
      by_cases z : val i ∈ firsts val i
      · have : firsts val (i + 1) = firsts val i := by rw [firsts, if_pos z]
        rw [this]
        by_cases y : k = val i
        · subst y; simp [z]
        · simp [y]
      · have : firsts val (i + 1) = firsts val i ++ [val i] := by rw [firsts, if_neg z]
        rw [this]
        simp [List.mem_append]
    have e4 : (if (fun k => decide (k ∈ firsts val i)) (val i) = true then (firsts val i).length else (firsts val i).length + 1) = (firsts val (i + 1)).length := by
      by_cases z : val i ∈ firsts val i
      · simp [firsts, z]
      · simp [firsts, z]
    have hS3 : h'.SetOf knd a (fun k => decide (k ∈ firsts val (i + 1))) (firsts val (i + 1)).length := PyProof.Rows.SetOf_congr hS2 (fun k => congrFun e3 k) e4
    have stay : ∀ b, b ≠ a → ∀ o, s'.heap.get? b = some o → h'.get? b = some o := fun b z o e => (same.2 b z).trans e
    refine wpAny_pure ⟨plainId_quiet PyProof.Rows.F.plain_set_update_loop _, again (i + 1) _ (by omega) lt (W.frame _ s' _ _ st' (Nat.le_succ _) fun b hb o e => stay b (fun z => out (z ▸ hb)) o e) hS3 ?_⟩
    intro s'' mv2 hS4
    refine fin s'' (Moved.trans W.gtrans ((mv.mono wide).then_heap (Nat.le_succ _) fun b o hb e => stay b (fun z => hb (by rw [z]; exact List.mem_cons_self)) o e) mv2) hS4
/-- set(xs), xs a list whose items are keys -/
theorem set_of_list0 {E : Value → Shared → Prop} {s : Shared} {l : Addr} {its : Array Value} (val : Nat → κ) {Q : Value → Shared → Prop} (calm : A.handled = none) (hl : s.heap.IsList l its)
    (keyed : ∀ (i : Nat) v, its[i]? = some v → knd.is (val i) v = true ∧ v.scannable = true) (few : its.size + 1 < scanBound)
    {Pst : Heap → Prop} (hPst : ∀ h' : Heap, h'.SetOf knd s.heap.objs.size (fun k => decide (k ∈ firsts val its.size)) (firsts val its.size).length → Pst h')
    (fin : ∀ h' tk, Pst h' → (∀ b o, b < s.heap.objs.size → s.heap.get? b = some o → h'.get? b = some o) → Q (.ref s.heap.objs.size) { s with heap := h', toks := tk }) :
    wpAny (model prog w) A (call (.type "set") [.ref l]) Q E s := by
  let nu : Bool → Obj := fun led => { cls := .type "set", dict := none, data := .set #[] 0 (.fresh 0 0 led) }
  obtain ⟨cc, tl, hmro⟩ := PySem.F.called_set.mro
  have a1 := PySem.F.called_set.made
  have a2 := PySem.F.called_set.sub
  have a3 := PySem.F.called_set.notType
  have a4 := PySem.F.called_set.canCreate
  have a5 := PySem.F.typeCall_set_1 (.ref l)
  refine wpAny_call (codeAny_of_tree ?_)
  change wpAny _ _ (callAny (.type "set") _) _ _ _
  refine wpAny_pure ⟨Code.quiet_builtin _ (by decide +kernel), codeAny_builtin PySem.F.entry_type_call ?_⟩
  rw [Around.under_plain (weight_type_call_type "set" [.ref l] []) rfl]
  repeat (any_goals (first | assumption | wp_step))
  refine codeAny_mono (PySem.code_set_new_1 (.ref l) (E := E) (Q₁ := fun ob s1 => ∃ led : Bool, ob = .ref s.heap.objs.size ∧ s1 = { s with heap := s.heap.push (nu led) }) fun led => ⟨led, rfl, rfl⟩) ?_
  intro r s1 hr
  cases r with
  | error e => exact hr
  | ok fl =>
    cases fl with
    | next => exact hr
    | brk => exact hr
    | cont => exact hr
    | ret ob =>
      obtain ⟨led, rfl, rfl⟩ := hr
      have new0 : (s.heap.push (nu led)).get? s.heap.objs.size = some (nu led) := Heap.get?_push_size _ rfl
      have ty0 : Shared.TypeIs { s with heap := s.heap.push (nu led) } (.ref s.heap.objs.size) "set" := ⟨_, new0, rfl⟩
      have b1 := PySem.F.called_set.init.lookup
      have b2 := PySem.F.called_set.init.bind (.ref s.heap.objs.size)
      repeat (any_goals (first | assumption | wp_step))
      refine codeAny_mono (codeAny_call_builtin (R := wants (fun r s2 => r = .none ∧ ∃ h' tk, s2 = { s with heap := h', toks := tk } ∧ Pst h' ∧ ∀ b o, b < s.heap.objs.size → s.heap.get? b = some o → h'.get? b = some o) E)
        PySem.F.called_set.init.plain PySem.F.entry_set_init (PySem.check_set_init_1 ty0 ?_)) ?_
      · obtain ⟨⟨k1, k2, k3, k4⟩, ho, kc, n, kd⟩ := hl
        simp only at kc kd
        subst kc kd
        have old : (s.heap.push (nu led)).get? l = some { cls := .type "list", dict := k2, data := .seq its n, slots := k4 } := Heap.get?_push_of_some _ ho
        have c1 := PySem.F.sub_list_set
        have c2 := PySem.F.sub_list_frozenset
        have c3 : (Value.type "list" == Value.type "dict") = false := by decide
        have here : (s.heap.push (nu led)).IsList l its := ⟨_, old, rfl, n, rfl⟩
        clear a1 a2 a3 a4 a5 b1 b2 hmro
        unfold Builtin.«set.__init__» noKeywords Builtin.Frozenset.updateFrom
        generalize hPI : pyIter = PI
        wp_walk
        subst hPI
        refine wpAny_pyIter_list here (wpAny_bind (wpAny_runValue ?_))
        have lt : l < s.heap.objs.size := Heap.lt_size ho
        have z1 : (s.heap.push (nu led)).objs.size = s.heap.objs.size + 1 := Heap.size_push _ _
        have calm3 : A.in1.in1.in1.handled = none := calm
        have ne : l ≠ (s.heap.push (nu led)).objs.size := by rw [z1]; exact Nat.ne_of_lt (Nat.lt_succ_of_lt lt)
        have out : s.heap.objs.size ∉ [(s.heap.push (nu led)).objs.size, l] := by
          rw [z1]
          intro z
          rcases List.mem_cons.mp z with z | z
          · exact absurd z (Nat.ne_of_lt (Nat.lt_succ_self _))
          · exact absurd (List.mem_singleton.mp z) (Nat.ne_of_gt lt)
        refine upd_turns (knd := knd) ((Walks.list calm3 _ l ne its).toS) out val keyed few (its.size - 0) 0 _ rfl (Nat.zero_le _) ⟨⟨_, Heap.get?_push_size _ rfl, rfl, rfl⟩, here.push _⟩ ?_ ?_
        · refine PyProof.Rows.SetOf_congr ((PyProof.Rows.setObjOf_fresh (knd := knd) led).setOf (Heap.get?_push_of_some _ new0) (by unfold scanBound; omega)) (fun k => ?_) rfl
          simp [firsts]
        · rintro ⟨h', g', d', tk', os'⟩ mv hS
          obtain rfl : g' = s.gens := mv.gens
          obtain rfl : d' = s.drawn := mv.drawn
          obtain rfl : os' = s.os := mv.os
          change wpAny _ _ _ _ _ _
          refine wpAny_pure ?_
          change wpAny _ _ (ret Value.none) _ _ _
          refine wpAny_pure ⟨rfl, h', tk', rfl, hPst _ hS, ?_⟩
          intro b o hb e
          refine mv.heap b o ?_ (Heap.get?_push_of_some _ (Heap.get?_push_of_some _ e))
          intro z
          rcases List.mem_cons.mp z with z | z
          · exact absurd z (Nat.ne_of_lt hb)
          · rw [List.mem_singleton, z1] at z
            exact absurd z (Nat.ne_of_lt (Nat.lt_succ_of_lt hb))
      · intro r2 s2 hr2
        cases r2 with
        | error e => exact hr2
        | ok fl2 =>
          cases fl2 with
          | next => exact hr2
          | brk => exact hr2
          | cont => exact hr2
          | ret u =>
            obtain ⟨rfl, h', tk, rfl, hS, old⟩ := hr2
            repeat (any_goals (first | assumption | wp_step))
            exact fin _ _ hS old
end
end VS

set_option Elab.async false
set_option linter.all false
set_option maxRecDepth 100000
set_option maxHeartbeats 4000000
namespace VS
open PySem PySem.Spec PyProof.Rows L2

/-- how many different ones -/
def distinct {α : Type} [DecidableEq α] : List α → Nat
  | [] => 0
  | a :: r => if a ∈ r then distinct r else distinct r + 1
section
variable {κ : Type} [DecidableEq κ]
theorem firsts_mem (val : Nat → κ) : ∀ (n : Nat) (k : κ), k ∈ firsts val n ↔ ∃ i, i < n ∧ val i = k
  | 0, k => by simp [firsts]
  | n + 1, k => by
    unfold firsts
    split
    · rename_i h
      rw [firsts_mem val n k]
      constructor
      · rintro ⟨i, h1, h2⟩; exact ⟨i, by omega, h2⟩
      · rintro ⟨i, h1, h2⟩
        by_cases z : i = n
        · subst z; subst h2; exact (firsts_mem val i _).mp h
        · exact ⟨i, by omega, h2⟩
    · rw [List.mem_append, firsts_mem val n k, List.mem_singleton]
      constructor
      · rintro (⟨i, h1, h2⟩ | h)
        · exact ⟨i, by omega, h2⟩
        · exact ⟨n, by omega, h.symm⟩
      · rintro ⟨i, h1, h2⟩
        by_cases z : i = n
        · subst z; exact .inr h2.symm
        · exact .inl ⟨i, by omega, h2⟩
theorem firsts_nodup (val : Nat → κ) : ∀ n, (firsts val n).Nodup
  | 0 => by simp [firsts]
  | n + 1 => by
    unfold firsts
    split
    · exact firsts_nodup val n
    · rename_i h
      rw [List.nodup_append]
      refine ⟨firsts_nodup val n, by simp, fun a ha b hb e => ?_⟩
      rw [List.mem_singleton] at hb
      subst hb e
      exact h ha
/-- a list's members, each once -/
def dedup : List κ → List κ
  | [] => []
  | a :: r => if a ∈ r then dedup r else a :: dedup r
theorem dedup_mem : ∀ (l : List κ) (k : κ), k ∈ dedup l ↔ k ∈ l
  | [], k => by simp [dedup]
  | a :: r, k => by
    unfold dedup
    split
    · rename_i h
      rw [dedup_mem r k, List.mem_cons]
      exact ⟨.inr, fun z => z.elim (fun z => z ▸ h) id⟩
    · rw [List.mem_cons, List.mem_cons, dedup_mem r k]
theorem dedup_nodup : ∀ l : List κ, (dedup l).Nodup
  | [] => by simp [dedup]
  | a :: r => by
    unfold dedup
    split
    · exact dedup_nodup r
    · rename_i h
      rw [List.nodup_cons, dedup_mem]
      exact ⟨h, dedup_nodup r⟩
theorem dedup_length : ∀ l : List κ, (dedup l).length = distinct l
  | [] => rfl
  | a :: r => by
    unfold dedup distinct
    split
    · exact dedup_length r
    · rw [List.length_cons, dedup_length r]
theorem firsts_length {xs : List κ} {val : Nat → κ} (h : ∀ (i : Nat) x, xs[i]? = some x → val i = x) : (firsts val xs.length).length = distinct xs := by
  rw [← dedup_length]
  refine Nat.le_antisymm ?_ ?_
  · refine (firsts_nodup val _).length_le_of_subset fun k hk => ?_
    obtain ⟨i, h1, h2⟩ := (firsts_mem val _ k).mp hk
    rw [dedup_mem]
    have : xs[i]? = some xs[i] := List.getElem?_eq_getElem h1
    rw [← h2, h i _ this]
    exact List.getElem_mem h1
  · refine (dedup_nodup xs).length_le_of_subset fun k hk => ?_
    rw [dedup_mem] at hk
    obtain ⟨i, h1, h2⟩ := List.mem_iff_getElem.mp hk
    exact (firsts_mem val _ k).mpr ⟨i, h1, by rw [h i _ (List.getElem?_eq_getElem h1)]; exact h2⟩
theorem distinct_nodup {l : List κ} (h : l.Nodup) : distinct l = l.length := by
  induction l with
  | nil => rfl
  | cons a r ih =>
    rw [List.nodup_cons] at h
    unfold distinct
    rw [if_neg h.1, ih h.2, List.length_cons]
end
def gLenSet : G1
  | .lst xs => match strs' xs with
    | some ss => if ss.length ≤ 4000 then some (.int (distinct ss)) else none
    | none => match toIs xs with
      | some is => if is.length ≤ 4000 then some (.int (distinct is)) else none
      | none => none
  | _ => none
theorem strs_reps {G : Gx} {F : Hp} : ∀ {vs : List V} {ds : List D} {is : List Str}, Reps G F vs ds → strs' ds = some is → vs = is.map V.str
  | _, _, _, .nil, h => by unfold strs' at h; cases h; rfl
  | _, _, _, .cons h1 r, h => by
    unfold strs' at h
    split at h
    · rename_i hq; exact absurd hq (by simp)
    · split at h
      · rename_i he _ js hj
        cases h; injection he with e1 e2; subst e1 e2; cases h1; rw [strs_reps r hj]; rfl
      · cases h
    · cases h
theorem vals_at {α : Type} {f : α → V} {is : List α} {us : List Value} (r : Vals (is.map f) us) {i : Nat} {u : Value} (h : us[i]? = some u) : ∃ x, is[i]? = some x ∧ RelV (f x) u := by
  have hl : i < (is.map f).length := by rw [r.length]; exact (List.getElem?_eq_some_iff.mp h).1
  obtain ⟨u', h1, h2⟩ := r.get (List.getElem?_eq_getElem hl)
  rw [h] at h1; cases h1
  rw [List.length_map] at hl
  exact ⟨is[i], List.getElem?_eq_getElem hl, by simpa using h2⟩
section
variable {c : Ctx} {X : Cx}
theorem ve_lenSet {a : Expr} {sa : SE} {p p2 q pos : Pos} (hc : X.calm = true) (hm : X.mg "len" = none) (hm2 : X.mg "set" = none) (ha : PE X a (vt c sa)) (hg : Gl X "len" := by rfl) (hg2 : Gl X "set" := by rfl)
    (n1 : starEach [a] X.env = (false, eval a X.env) :: starEach [] X.env := by rfl) : PE X (.Call (.Name "len" p) [.Call (.Name "set" p2) [a] [] q] [] pos) (vt c (s1 gLenSet sa)) := by
  constructor
  intro pins s σ H Q I h
  obtain ⟨F, ρ, I', d, ρ', e, fin⟩ := h
  obtain ⟨x, e1, e2⟩ := s1_inv e
  refine Call_ (ld_blt I hg hm boot_len (PyProof.Rows.callWith_builtin1 (PyProof.Rows.args_cons (Call_ (ld_blt I hg2 hm2 boot_set ?_)) rfl) rfl rfl))
  refine PyProof.Rows.callWith_type1 (PyProof.Rows.args_cons (thn (ha.run pins s σ H (fun v H1 => ∃ l, v = .ref l ∧ ((∃ ss : List Str, H1 l = some (.lst (ss.map V.str)) ∧ ss.length ≤ 4000 ∧ Q (.int (distinct ss)) H1) ∨ ∃ is : List Int, H1 l = some (.lst (is.map V.int)) ∧ is.length ≤ 4000 ∧ Q (.int (distinct is)) H1)) I ⟨F, ρ, I', x, ρ', e1, fun v H1 F1 x1 I1 r1 => ?_⟩) ?_) n1) n1 rfl
  · unfold gLenSet at e2
    split at e2
    · cases r1 with
      | lst h1 rs =>
        split at e2
        · rename_i ss hs
          split at e2
          · rename_i hl
            cases e2
            exact ⟨_, rfl, .inl ⟨ss, by rw [← strs_reps rs hs]; exact I1.fh _ _ h1, hl, fin _ _ _ x1 I1 (.int _)⟩⟩
          · cases e2
        · split at e2
          · rename_i is hs
            split at e2
            · rename_i hl
              cases e2
              exact ⟨_, rfl, .inr ⟨is, by rw [← ints_reps rs hs]; exact I1.fh _ _ h1, hl, fin _ _ _ x1 I1 (.int _)⟩⟩
            · cases e2
          · cases e2
    · cases e2
  · rintro u s1 ⟨v, H1, I1, ru, l, rfl, q1⟩
    cases ru
    refine PyProof.Rows.args_nil ?_
    have stop : ∀ {κ : Type} [DecidableEq κ] [BEq κ] [LawfulBEq κ] {knd : PySem.KeyKind X.prog X.w κ} {xs : List κ} {val : Nat → κ} {its : List Value}, its.length = xs.length → xs.length ≤ 4000 → (∀ (i : Nat) x, xs[i]? = some x → val i = x) → Q (.int (distinct xs)) H1 →
        ∀ h' tk, h'.SetOf knd s1.heap.objs.size (fun k => decide (k ∈ firsts val its.toArray.size)) (firsts val its.toArray.size).length → (∀ b o, b < s1.heap.objs.size → s1.heap.get? b = some o → h'.get? b = some o) →
        wpAny (model X.prog X.w) X.A (spliced (backTo pos (starEach [] X.env))) (fun vs s₂ => wpAny (model X.prog X.w) X.A (call (.builtin "len") (Value.ref s1.heap.objs.size :: vs)) (EP X pins σ Q) X.xe s₂) X.xe { s1 with heap := h', toks := tk } := by
      intro κ _ _ _ knd xs val its hlen h4 hval hQ h' tk hS hk
      refine PyProof.Rows.args_nil ?_
      have hsz : its.toArray.size = xs.length := by rw [List.size_toArray]; exact hlen
      rw [hsz] at hS
      rw [firsts_length hval] at hS
      obtain ⟨o, es, ep, t, ho, hex, hd, _, _, _, hf, hn⟩ := hS
      have I2 : Inv X pins σ H1 { s1 with heap := h', toks := tk } := I1.kept fun b o e => hk b o (Heap.lt_size e) e
      have small : distinct xs ≤ 4000 := by
        rw [← firsts_length hval]
        exact Nat.le_trans (firsts_le _ _) h4
      exact call_len_set ho hex hd hf (by rw [hn]; omega) ⟨.int (distinct xs), H1, I2.tok _, ⟨_, by rw [hn]⟩, hQ⟩
    rcases q1 with ⟨ss, hh, hl, hQ⟩ | ⟨is, hh, hl, hQ⟩
    · obtain ⟨its, rv, pl, hz⟩ := I1.list (.of hh : SqL X.K H1 l _)
      have hlen : its.length = ss.length := by rw [← rv.length, List.length_map]
      have hval : ∀ (i : Nat) x, ss[i]? = some x → (fun i => ss.getD i Str.empty) i = x := fun i x hx => by simp [List.getD_eq_getElem?_getD, hx]
      refine set_of_list0 (knd := strKind X.prog X.w) (fun i => ss.getD i Str.empty) (I1.ok.hd hc) pl.isList (fun i v hv => ?_) (by rw [List.size_toArray, hlen]; unfold scanBound; omega) (Pst := fun h' => h'.SetOf (strKind X.prog X.w) s1.heap.objs.size _ _) (fun h' z => z) (stop hlen hl hval hQ)
      obtain ⟨x, h1, h2⟩ := vals_at rv (by simpa using hv)
      obtain ⟨t, rfl⟩ := h2
      have hv' : ss.getD i Str.empty = x := hval i x h1
      rw [hv']
      exact ⟨strKind_is _ _ _ _, rfl⟩
    · obtain ⟨its, rv, pl, hz⟩ := I1.list (.of hh : SqL X.K H1 l _)
      have hlen : its.length = is.length := by rw [← rv.length, List.length_map]
      have hval : ∀ (i : Nat) x, is[i]? = some x → (fun i => is.getD i 0) i = x := fun i x hx => by simp [List.getD_eq_getElem?_getD, hx]
      refine set_of_list0 (knd := intKind X.prog X.w) (fun i => is.getD i 0) (I1.ok.hd hc) pl.isList (fun i v hv => ?_) (by rw [List.size_toArray, hlen]; unfold scanBound; omega) (Pst := fun h' => h'.SetOf (intKind X.prog X.w) s1.heap.objs.size _ _) (fun h' z => z) (stop hlen hl hval hQ)
      obtain ⟨x, h1, h2⟩ := vals_at rv (by simpa using hv)
      obtain ⟨t, rfl⟩ := h2
      have hv' : is.getD i 0 = x := hval i x h1
      rw [hv']
      exact ⟨intKind_is _ _ _ _, rfl⟩
end
end VS

set_option Elab.async false
set_option linter.all false
set_option maxRecDepth 100000
set_option maxHeartbeats 4000000
namespace VS
open PySem PySem.Spec PyProof.Rows L2

/-! an own class: made, its fields stored in __init__ -/
/-- what the text says of a class -/
structure ClsOk (K : PySem.W.Frag) (C : Addr) : Prop where
  cl : Cls K C
  ha : PySem.W.findIn K (.ref C) "__class__" = some (some (.builtin "object.__class__"))
  hn : PySem.W.specialIn K (.builtin "object.__class__") "__get__" = some (some (.builtin "getset_descriptor.__get__"))
  tk : PySem.W.takesIn K (.builtin "object.__class__") = some true
  mr : PySem.W.mroIn K C (.type "object") = some true
/-- a class as its callers know it -/
structure CalC (P : Program) (w : World) (G : Gx) (mg : Str → Option Value) (base : Heap) (x : Str) (k n : Nat) (t : Nat) (m : Mir) : Prop where
  ex : ∃ (f : Addr) (fd : FuncData) (ps : List Str), mg x = some (.ref (G.cls t)) ∧ Mk G.K (G.cls t) f ∧ Binds G.K fd ps [] ∧ FnOk P w G.K mg base CX0 k f fd ps (spV G n m)
def sMake (t nf n : Nat) (m : Mir) (a : SA) : SE := fun ρ => match a ρ with
  | some (xs, ρ1) => if xs.length + 1 = n then match m (.slf t [] :: xs.map .val) with
    | some (.non, out) => if out.length = nf then some (.ins t out, ρ1) else none
    | _ => none
    else none
  | none => none
section
variable {c : Ctx} {X : Cx}
/-- an object that is no slot's, changed by a callee -/
theorem Ok.keepX {F H F' H' : Hp} {σ : L2.St} {ρ : Rho} {p : Addr} (I : Ok c F H σ ρ) (k : Keep c.G.T [p] F H F' H') (h0 : c.H0 p = none) (nl : ∀ o, H p = some o → ¬ LamL o) (ap : ∀ (j : Nat) (s : Sl) (q : Addr), ρ[j]? = some s → s.mut = true → σ[j]? = some (some (V.ref q)) → q ≠ p) : Ok c F' H' σ ρ :=
  I.kept k (fun q h => by rw [List.mem_singleton.mp h]; exact h0) (fun q h => by rw [List.mem_singleton.mp h]; exact nl) fun j s q h1 h2 h3 z => ap j s q h1 h2 h3 (List.mem_singleton.mp z)
/-- any object that is no slot's becomes data -/
theorem Ok.sealO {F H : Hp} {σ : L2.St} {ρ : Rho} {p : Addr} {u : HO} (I : Ok c F H σ ρ) (hp : H p = some u) (nt : ∀ ps, u ≠ .tbl ps) (nl : ¬ LamL u) (hF : F p = none) (h0 : c.H0 p = none) (ap : ∀ (j : Nat) (s : Sl) (q : Addr), ρ[j]? = some s → s.mut = true → σ[j]? = some (some (V.ref q)) → q ≠ p) : Ok c (upd F p u) H σ ρ := by
  have ex : Ext F (upd F p u) := Ext.upd hF
  refine ⟨I.len, I.f0.trans ex, fun q v e => ?_, I.fr, I.al, fun q v e1 e2 => ?_, fun i s hs => ?_, I.ap, I.hb, I.tb.seal hp nt⟩
  · by_cases z : q = p
    · subst z; rw [upd_same] at e; cases e; exact hp
    · rw [upd_ne z] at e; exact I.fh q v e
  · have z : q ≠ p := fun z => by subst z; rw [h0] at e1; cases e1
    rw [upd_ne z]; exact I.n0 q v e1 e2
  obtain ⟨ov, h1, h2⟩ := I.sl i s hs
  refine ⟨ov, h1, ?_⟩
  cases s with
  | no => cases ov <;> trivial
  | val d =>
    cases ov with
    | none => exact h2
    | some v => exact Rep.ext ex h2
  | lam g0 =>
    cases ov with
    | none => exact h2
    | some v => exact (let ⟨f1, z1, z2⟩ := h2; ⟨f1, z1, z2.move ex fun q0 u0 e1 e2 => ⟨e1, fun e3 => by rw [upd_ne (fun z => by subst z; rw [hp] at e1; cases e1; exact nl e2)]; exact e3⟩⟩)
  | own xs =>
    cases ov with
    | none => exact h2
    | some v =>
      obtain ⟨q, e, a1, a2, vs, a3, a4⟩ := h2
      exact ⟨q, e, a1, by rw [upd_ne (ap i _ q hs rfl (by rw [h1, e]))]; exact a2, vs, a3, a4.ext ex⟩
  | bor xs =>
    cases ov with
    | none => exact h2
    | some v =>
      obtain ⟨q, e, a1, a2, vs, a3, a4⟩ := h2
      exact ⟨q, e, a1, by rw [upd_ne (ap i _ q hs rfl (by rw [h1, e]))]; exact a2, vs, a3, a4.ext ex⟩
  | slf k fs =>
    cases ov with
    | none => exact h2
    | some v =>
      obtain ⟨q, e, a1, a2, dx, vs, a3, a4, a5⟩ := h2
      exact ⟨q, e, a1, by rw [upd_ne (ap i _ q hs rfl (by rw [h1, e]))]; exact a2, dx, vs, a3, a4, a5.ext ex⟩
  | dic b k fs =>
    cases ov with
    | none => exact h2
    | some v =>
      obtain ⟨q, e, a1, a2, vs, a3, a5⟩ := h2
      exact ⟨q, e, a1, by rw [upd_ne (ap i _ q hs rfl (by rw [h1, e]))]; exact a2, vs, DicAt.ext ex (fun _ z => z) a3, a5.ext ex⟩
theorem ve_make {x : Str} {p pos : Pos} {e : Expr} {es : List Expr} {k n t nf : Nat} {m : Mir} {sa : SA} (C : CalC X.prog X.w c.G X.mg X.base x k n t m) (hnf : (c.G.fld t).length = nf) (hK : X.K = c.G.K) (hr : Room (k + 1) X.A) (ha : PA X (e :: es) (va c sa)) (hg : Gl X x := by rfl) (hdb : (x == ("__debug__" : Str)) = false := by decide)
    (he : starEach (e :: es) X.env = (false, eval e X.env) :: starEach es X.env := by rfl) (hpl : (backTo pos (starEach es X.env)).any (·.1) = false := by rfl) : PE X (.Call (.Name x p) (e :: es) [] pos) (vt c (sMake t nf n m sa)) := by
  obtain ⟨f, fd, ps, hm, hk, hb, hF⟩ := C.ex
  rw [← hK] at hk hb hF
  refine pe_of (pe_make hk hF hr hg hm hb .nil pass0 ha hdb he hpl) fun σ H Q ⟨F, ρ, I, d, ρ', e, q⟩ => ?_
  unfold sMake at e
  split at e
  · rename_i xs ρ1 e1
    split at e
    · rename_i hn
      split at e
      · rename_i out e2
        split at e
        · rename_i hl
          cases e
          refine ⟨F, ρ, I, xs, ρ', e1, fun us H1 F1 x1 I1 r1 => ?_⟩
          intro a dx ha' hdx hne
          rw [List.append_nil]
          have G1 : Grow F1 H1 F1 (upd H1 dx (.own a)) := Grow.raw I1.fh hdx
          have ha2 : upd H1 dx (.own a) a = none := by rw [upd_ne hne.symm]; exact ha'
          have G2 := G1.trans (Grow.raw (o := .ins (c.G.cls t) dx []) G1.fh ha2)
          have hFa : F1 a = none := ext_none I1.fh ha'
          refine ⟨F1, [a], _, G2.fh, (I1.grow G2).tb, .slf hFa upd_same r1, by simpa using hn, .non, out, e2, fun v H2 F2 k2 o2 r2 => ?_⟩
          cases r2
          refine ⟨rfl, ?_⟩
          obtain ⟨z1, dx', fs, z2, ⟨nn, z3⟩, z4⟩ := o2 a (List.mem_singleton.mpr rfl)
          have I2 := (I1.grow G2).keepX k2 (I1.no_H0 ha') (fun o e => by rw [upd_same] at e; cases e; exact nl_ins) (I1.no_slot ha')
          have I3 := I2.sealO z2 nt_ins nl_ins z1 (I1.no_H0 ha') (I1.no_slot ha')
          have ex := Ext.upd (o := .ins (c.G.cls t) dx' fs) z1
          refine q _ H2 _ ((x1.trans k2.f).trans ex) I3 (.ins upd_same ?_ (z4.ext ex))
          have l1 := z4.length
          rw [List.length_map] at l1
          have l2 := congrArg List.length z3
          rw [List.length_map, List.length_take] at l2
          rw [z3, List.take_of_length_le (by omega)]
        · cases e
      · cases e
    · cases e
  · cases e
/-- self.f = e in an __init__, the fields in their order -/
def kSelf (t j : Nat) (e : SE) : SS := fun ρ => match e ρ with
  | some (d, ρ1) => match (ρ1[0]? : Option Sl) with
    | some (.slf t' fs) => if t' = t ∧ fs.length = j then some (.nx, ρ1.set 0 (.slf t (fs ++ [d]))) else none
    | _ => none
  | none => none
theorem putF_new {f : Str} {v : V} : ∀ {fs : List (Str × V)}, f ∉ fs.map (·.1) → putF f v fs = fs ++ [(f, v)]
  | [], _ => rfl
  | (g, x) :: r, h => by
    simp only [List.map_cons, List.mem_cons, not_or] at h
    show (if g = f then _ else _) = _
    rw [if_neg (Ne.symm h.1), putF_new h.2]
    rfl
theorem look_take {f : Str} : ∀ {l : List Str} {j : Nat}, look f l = some j → f ∉ l.take j ∧ l.take (j + 1) = l.take j ++ [f] ∧ j < l.length
  | [], j, h => by simp [look] at h
  | g :: r, j, h => by
    unfold look at h
    by_cases e : f = g
    · rw [if_pos e] at h; cases h; subst e; simp
    · rw [if_neg e] at h
      cases e2 : look f r with
      | none => rw [e2] at h; cases h
      | some i =>
        rw [e2] at h; cases h
        obtain ⟨h1, h2, h3⟩ := look_take e2
        refine ⟨by simp [e, h1], ?_, by simp; omega⟩
        simp only [List.take_succ_cons, List.cons_append]
        rw [h2]
theorem vs_self {e o : Expr} {f : Str} {s : SE} {pos pos' : Pos} (t j : Nat) (ho : PE X o (tVar 0)) (he : PE X e (vt c s)) (cl : Cls X.K (c.G.cls t)) (nf : NoAttr X.K (c.G.cls t) f) (hj : look f (c.G.fld t) = some j) (few : j < 1000 := by decide)
    (hs : swapsWith e (some (.Attribute o f pos')) pos.line X.env = pure false := by rfl) : PS X (.Assign [.Attribute o f pos'] e pos) (vs c (kSelf t j s)) :=
  ps_of (ps_fld ho he hs) fun σ H E ⟨F, ρ, I, fl, ρ', e, q⟩ => by
    unfold kSelf at e
    split at e
    · rename_i d ρ1 e1
      split at e
      · rename_i t' fs e2
        split at e
        · rename_i hh
          cases e
          obtain ⟨rfl, hl⟩ := hh
          refine ⟨F, ρ, I, d, ρ1, e1, fun v H1 F1 x1 I1 r1 => ?_⟩
          obtain ⟨ov, h1, h2⟩ := I1.sl 0 _ e2
          cases ov with
          | none => exact h2.elim
          | some w =>
            obtain ⟨p, ep, hB, hF, dx, us, hp, ⟨n, hn⟩, r⟩ := h2
            subst ep
            have l1 := r.length
            rw [List.length_map] at l1
            have l2 := congrArg List.length hn
            rw [List.length_map, List.length_take] at l2
            obtain ⟨g1, g2, g3⟩ := look_take hj
            have names : us.map (·.1) = (c.G.fld t').take j := by
              by_cases z : n ≤ (c.G.fld t').length
              · rw [hn, show n = j by omega]
              · omega
            refine ⟨_, h1, p, c.G.cls t', dx, us, rfl, hp, cl, nf, by omega, ?_⟩
            rw [putF_new (by rw [names]; exact g1)]
            refine q _ _ F1 x1 ?_
            -- self has one field more
            have keep : Keep c.G.T [p] F1 H1 F1 (upd H1 p (.ins (c.G.cls t') dx (us ++ [(f, v)]))) := by
              refine ⟨Ext.rfl', fun a o e => ?_, fun a o e n _ => ?_, fun a o e => ?_, fun a o _ n => n, fun tb => ⟨tabs_upd tb.t hp nt_ins nc_ins, tb.n⟩⟩
              · have : a ≠ p := fun z => by subst z; rw [hF] at e; cases e
                rw [upd_ne this]; exact I1.fh a o e
              · have : a ≠ p := fun z => n (by rw [z]; exact List.mem_singleton.mpr rfl)
                rw [upd_ne this]; exact e
              · by_cases z : a = p
                · subst z; exact ⟨_, upd_same⟩
                · exact ⟨o, by rw [upd_ne z]; exact e⟩
            have l0 : 0 < ρ1.length := (List.getElem?_eq_some_iff.mp e2).1
            refine ⟨by rw [List.length_set]; exact I1.len, I1.f0, keep.fh, fun a o z1 z2 z3 => keep.h a o (I1.fr a o z1 z2 z3) (fun z => z2 (by rw [List.mem_singleton.mp z]; exact hB)) z3, fun a o z1 => ?_, I1.n0, fun i s hs => ?_, fun a b s t pa qb ha hb ms mt hpa hqb e => ?_, I1.hb, keep.t I1.tb⟩
            · obtain ⟨o', z⟩ := I1.al a o z1
              exact keep.a a o' z
            · by_cases hi : i = 0
              · subst hi
                rw [List.getElem?_set_self l0] at hs
                cases hs
                refine ⟨_, h1, p, rfl, hB, hF, dx, _, upd_same, ⟨j + 1, ?_⟩, ?_⟩
                · rw [List.map_append, names, g2]; rfl
                · rw [List.map_append]; exact r.append (.one r1)
              · rw [List.getElem?_set_ne (Ne.symm hi)] at hs
                obtain ⟨ov, k1, k2⟩ := I1.sl i s hs
                refine ⟨ov, k1, ?_⟩
                have ne : ∀ q, s.mut = true → ov = some (V.ref q) → q ≠ p := fun q hm e z => hi (I1.ap i 0 _ _ q p hs e2 hm rfl (by rw [k1, e]) h1 z)
                cases s with
                | no => cases ov <;> trivial
                | val d => cases ov <;> exact k2
                | lam g0 =>
                  cases ov with
                  | none => exact k2
                  | some v => exact let ⟨f1, z1, z2⟩ := k2; ⟨f1, z1, z2.move Ext.rfl' fun q0 u0 e1 e2 => ⟨by rw [upd_ne (fun z => by subst z; rw [hp] at e1; cases e1; exact nl_ins e2)]; exact e1, id⟩⟩
                | own xs =>
                  cases ov with
                  | none => exact k2
                  | some v =>
                    obtain ⟨q, e, a1, a2, vs, a3, a4⟩ := k2
                    exact ⟨q, e, a1, a2, vs, by rw [upd_ne (ne q rfl (by rw [e]))]; exact a3, a4⟩
                | bor xs =>
                  cases ov with
                  | none => exact k2
                  | some v =>
                    obtain ⟨q, e, a1, a2, vs, a3, a4⟩ := k2
                    exact ⟨q, e, a1, a2, vs, by rw [upd_ne (ne q rfl (by rw [e]))]; exact a3, a4⟩
                | slf z xs =>
                  cases ov with
                  | none => exact k2
                  | some v =>
                    obtain ⟨q, e, a1, a2, dx, fs, a3, a4, a5⟩ := k2
                    exact ⟨q, e, a1, a2, dx, fs, by rw [upd_ne (ne q rfl (by rw [e]))]; exact a3, a4, a5⟩
                | dic z zs xs =>
                  cases ov with
                  | none => exact k2
                  | some v =>
                    obtain ⟨q, e, a1, a2, vs, a3, a5⟩ := k2
                    exact ⟨q, e, a1, a2, vs, DicAt.ext Ext.rfl' (fun o' z => by rw [upd_ne (ne q rfl (by rw [e]))]; exact z) a3, a5⟩
            · have mu : ∀ (i : Nat) (s : Sl), (ρ1.set 0 (.slf t' (fs ++ [d])))[i]? = some s → s.mut = true → ∃ s', ρ1[i]? = some s' ∧ s'.mut = true := fun i s hs hm => by
                by_cases hi : i = 0
                · subst hi; exact ⟨_, e2, rfl⟩
                · rw [List.getElem?_set_ne (Ne.symm hi)] at hs; exact ⟨s, hs, hm⟩
              obtain ⟨s', z1, z2⟩ := mu a s ha ms
              obtain ⟨t2, z3, z4⟩ := mu b t hb mt
              exact I1.ap a b s' t2 pa qb z1 z3 z2 z4 hpa hqb e
        · cases e
      · cases e
    · cases e

/-! isinstance -/
def gIsTy (T : Nat) : G1
  | .non => some (.bl false)
  | .bl _ => some (.bl (T == 0 || T == 1))
  | .int _ => some (.bl (T == 1))
  | .str _ => some (.bl (T == 2))
  | .lst _ => some (.bl (T == 3))
  | .tup _ => some (.bl (T == 4))
  | _ => none
def tyName : Nat → String
  | 0 => "bool" | 1 => "int" | 2 => "str" | 3 => "list" | _ => "tuple"
/-- isinstance(x, T), T one of bool, int, str, list, tuple -/
theorem isTy_rule (T : Nat) (hT : T < 5) {F H : Hp} {x : V} {d r : D} (e : Ext F H) (h : Rep c.G F x d) (hg : gIsTy T d = some r) : ∃ t b, TyX X.K H x t ∧ PySem.W.kitOne X.K t (.type (tyName T)) = some b ∧ r = .bl b := by
  have k : ∀ (a : String) (b : Bool), kitB a (tyName T) = some b → PySem.W.kitOne X.K (.type a) (.type (tyName T)) = some b := fun a b z => kit_ty z
  unfold gIsTy at hg
  split at hg
  · cases hg; cases h
    exact ⟨_, false, .base .non, k _ _ (by match T, hT with | 0, _ => decide +kernel | 1, _ => decide +kernel | 2, _ => decide +kernel | 3, _ => decide +kernel | 4, _ => decide +kernel), rfl⟩
  · cases hg; cases h
    exact ⟨_, _, .base (.bl _), k _ _ (by match T, hT with | 0, _ => decide +kernel | 1, _ => decide +kernel | 2, _ => decide +kernel | 3, _ => decide +kernel | 4, _ => decide +kernel), rfl⟩
  · cases hg; cases h
    exact ⟨_, _, .base (.int _), k _ _ (by match T, hT with | 0, _ => decide +kernel | 1, _ => decide +kernel | 2, _ => decide +kernel | 3, _ => decide +kernel | 4, _ => decide +kernel), rfl⟩
  · cases hg; cases h
    exact ⟨_, _, .base (.str _), k _ _ (by match T, hT with | 0, _ => decide +kernel | 1, _ => decide +kernel | 2, _ => decide +kernel | 3, _ => decide +kernel | 4, _ => decide +kernel), rfl⟩
  · cases hg
    cases h with
    | lst h1 _ => exact ⟨_, _, .base (.lst (e _ _ h1)), k _ _ (by match T, hT with | 0, _ => decide +kernel | 1, _ => decide +kernel | 2, _ => decide +kernel | 3, _ => decide +kernel | 4, _ => decide +kernel), rfl⟩
  · cases hg
    cases h with
    | tup h1 _ => exact ⟨_, _, .base (.tup (e _ _ h1)), k _ _ (by match T, hT with | 0, _ => decide +kernel | 1, _ => decide +kernel | 2, _ => decide +kernel | 3, _ => decide +kernel | 4, _ => decide +kernel), rfl⟩
  · cases hg
theorem ve_isTy {e : Expr} {x : Str} {s : SE} {p p2 pos : Pos} (T : Nat) (hT : T < 5) (hm : X.mg "isinstance" = none) (he : PE X e (vt c s)) (hm2 : X.mg x = none) (hv2 : bootBuiltins x = some (.type (tyName T))) (hg : Gl X "isinstance" := by rfl) (hg2 : Gl X x := by rfl)
    (n2 : x ≠ "__name__" := by decide) (d2 : (x == ("__debug__" : Str)) = false := by decide)
    (h1 : starEach [e, .Name x p2] X.env = (false, eval e X.env) :: starEach [.Name x p2] X.env := by rfl) (h2 : starEach [.Name x p2] X.env = (false, eval (.Name x p2) X.env) :: starEach [] X.env := by rfl)
    (hpl : (backTo pos (starEach [.Name x p2] X.env)).any (·.1) = false := by rfl) :
    PE X (.Call (.Name "isinstance" p) [e, .Name x p2] [] pos) (vt c (s1 (gIsTy T) s)) := by
  refine pe_of (pe_callB call_isi hg hm (by decide +kernel) (pa_cons he (pa_cons (pe_bltn (v := .ty (tyName T)) hg2 hm2 hv2 rfl n2 d2) pa_nil h2) h1) (by decide) (by decide) h1 hpl) fun σ H Q ⟨F, ρ, I, d, ρ', e, q⟩ => ?_
  obtain ⟨y, e1, e2⟩ := s1_inv e
  refine ⟨F, ρ, I, y, ρ', e1, fun v H1 F1 x1 I1 r1 => ?_⟩
  obtain ⟨t, b, g1, g2, g3⟩ := isTy_rule (X := X) T hT I1.fh r1 e2
  subst g3
  exact ⟨v, .ty (tyName T), t, _, b, rfl, .ty _, g1, g2, q _ _ _ x1 I1 (.bl _)⟩
/-- isinstance(x, C), x of the class itself -/
def gIsC (k : Nat) : G1
  | .ins k' _ => if k' = k then some (.bl true) else none
  | _ => none
theorem ve_isC {e : Expr} {x : Str} {s : SE} {p p2 pos : Pos} (k : Nat) (hm : X.mg "isinstance" = none) (he : PE X e (vt c s)) (hm2 : X.mg x = some (.ref (c.G.cls k))) (C : ClsOk X.K (c.G.cls k)) (hg : Gl X "isinstance" := by rfl) (hg2 : Gl X x := by rfl)
    (d2 : (x == ("__debug__" : Str)) = false := by decide)
    (h1 : starEach [e, .Name x p2] X.env = (false, eval e X.env) :: starEach [.Name x p2] X.env := by rfl) (h2 : starEach [.Name x p2] X.env = (false, eval (.Name x p2) X.env) :: starEach [] X.env := by rfl)
    (hpl : (backTo pos (starEach [.Name x p2] X.env)).any (·.1) = false := by rfl) :
    PE X (.Call (.Name "isinstance" p) [e, .Name x p2] [] pos) (vt c (s1 (gIsC k) s)) := by
  refine pe_of (pe_callB call_isi hg hm (by decide +kernel) (pa_cons he (pa_cons (pe_glob (v := .ref (c.G.cls k)) hg2 hm2 rfl d2) pa_nil h2) h1) (by decide) (by decide) h1 hpl) fun σ H Q ⟨F, ρ, I, d, ρ', e, q⟩ => ?_
  obtain ⟨y, e1, e2⟩ := s1_inv e
  refine ⟨F, ρ, I, y, ρ', e1, fun v H1 F1 x1 I1 r1 => ?_⟩
  unfold gIsC at e2
  split at e2
  · split at e2
    · rename_i hk
      subst hk
      cases e2
      cases r1 with
      | ins g1 _ _ =>
        exact ⟨_, _, _, _, true, rfl, .own _, .base (.ins (I1.fh _ _ g1) C.cl C.ha C.hn C.tk C.mr), if_pos (beq_self_eq_true _), q _ _ _ x1 I1 (.bl _)⟩
    · cases e2
  · cases e2
end

/-! the law's own promise -/
def spLaw (G : Gx) : Sp := fun vs H Q _ => ∃ (a : Addr) (ns : List Int), vs = [.ref a] ∧ SqL G.K H a (ns.map V.int) ∧ ns.length ≤ 63 ∧ LamX.Tabs G.T H ∧ ∀ H', Q (.bl true) H'
/-- the heap without the tables -/
def noTab (H : Hp) : Hp := fun a => match H a with
  | some (.tbl _) => none
  | o => o
theorem noTab_ext {H : Hp} : Ext (noTab H) H := fun a o e => by
  unfold noTab at e
  split at e
  · cases e
  · exact e
theorem noTab_of {H : Hp} {a : Addr} {o : HO} (h : H a = some o) (n : ∀ ps, o ≠ .tbl ps) : noTab H a = some o := by
  unfold noTab
  rw [h]
  split
  · rename_i z; cases z; exact absurd rfl (n _)
  · rfl
theorem sqL_noTab {K : PySem.W.Frag} {H : Hp} {a : Addr} {xs : List V} (h : SqL K H a xs) : SqL K (noTab H) a xs := by
  rcases h with (h | ⟨o, h⟩) | h
  · exact .inl (.inl (noTab_of h nt_lst))
  · exact .inl (.inr ⟨o, noTab_of h (fun _ z => by cases z)⟩)
  · exact .inr h
theorem noTab_tb {T : List (Addr × Str)} {H : Hp} (t : LamX.Tabs T H) : TbOk T (noTab H) H := ⟨t, fun p hp => by
  obtain ⟨ps, e, _⟩ := t p hp
  unfold noTab
  rw [e]⟩
theorem law_ok {P : Program} {w : World} {G : Gx} {mg : Str → Option Value} {base : Heap} {k : Nat} {f : Addr} {fd : FuncData} {x : Str} {m : Mir} (F : FnOk P w G.K mg base CX0 k f fd [x] (spV G 1 m))
    (h : ∀ ns : List Int, ns.length ≤ 63 → ∃ o, m [.val (.scr (ns.map .int))] = some (.bl true, o)) : FnOk P w G.K mg base CX0 k f fd [x] (spLaw G) := by
  refine F.imp fun vs H Q E ⟨a, ns, e, hs, hl, tb, q⟩ => ?_
  subst e
  obtain ⟨o, ho⟩ := h ns hl
  exact ⟨noTab H, [], _, noTab_ext, noTab_tb tb, .vals (ds := [.scr (ns.map .int)]) (.one (.scr (sqL_noTab hs) (reps_ints ns))), rfl, _, o, ho, fun v H' F' _ _ r => by cases r; exact q H'⟩
end VS

set_option Elab.async false
set_option linter.all false
set_option maxRecDepth 100000
set_option maxHeartbeats 4000000
namespace VS
open PySem PySem.Spec PyProof.Rows L2

/-! enumerate(zip(x, y)) over two lists -/
/-- a zip at z, whatever it says of the tuple it gave out -/
abbrev ZS (h : Heap) (z TI TO : Addr) (o : Value) (f : Bool) : Prop :=
  h.get? z = some { cls := .type "zip", dict := none, data := .fields #[o, .bool f, .bool false, .ref TI, .ref TO], slots := #[] }
def OutV (o : Value) : Prop := o = .none ∨ ∃ T : Addr, o = rawInt T
section
variable {prog : Program} {w : World} {A : Around} {E : Value → Shared → Prop} {s : Shared}
theorem alive_w {T : Addr} {Q : Option Obj → Shared → Prop} (h : Q (s.heap.get? T) s) : wpAny (model prog w) A (loadIfAlive T) Q E s := fun _ _ _ => h
theorem zs_free {z TI TO : Addr} {o : Value} {f : Bool} {Q : Bool → Shared → Prop} (hz : ZS s.heap z TI TO o f) (ho : OutV o)
    (q : ∀ b h' g, ZS h' z TI TO o g → Heap.SameBut z s.heap h' → Q b { s with heap := h' }) : wpAny (model prog w) A (Builtin.SmallTypes.ownedTupleIsFree (.ref z)) Q E s := by
  unfold Builtin.SmallTypes.ownedTupleIsFree
  rcases ho with rfl | ⟨T, rfl⟩
  · exact wpAny_bind (wpAny_field hz rfl (x := Value.none) rfl (wpAny_pure (q true s.heap f hz (.refl _ _))))
  · refine wpAny_bind (wpAny_field (x := rawInt T) hz rfl rfl ?_)
    show wpAny _ _ (loadIfAlive ((T : Int).toNat) >>= _) Q E s
    rw [Int.toNat_natCast]
    refine wpAny_bind (alive_w ?_)
    cases e : s.heap.get? T with
    | none => exact wpAny_pure (q true s.heap f hz (.refl _ _))
    | some ob =>
      simp only [Option.isNone_some, Bool.false_eq_true, if_false]
      refine wpAny_bind (wpAny_field (x := .bool f) hz rfl rfl ?_)
      cases f with
      | true => exact wpAny_pure (q false s.heap true hz (.refl _ _))
      | false => exact wpAny_bind (wpAny_setField_rec hz (by simp) fun h1 z1 b1 => wpAny_pure (q false h1 true z1 b1))
theorem zs_item {z TI TO i1 i2 l1 l2 : Addr} {k : Nat} {xs ys : Array Value} {x y a b o : Value} {f : Bool} {Q : Value → Shared → Prop} (D : ZipApart z TI TO i1 i2 l1 l2)
    (hz : ZS s.heap z TI TO o f) (ho : OutV o) (hTI : IsPair s.heap TI (.ref i1) (.ref i2)) (hTO : IsPair s.heap TO a b)
    (p1 : s.heap.IsListIter i1 l1 k) (p2 : s.heap.IsListIter i2 l2 k) (q1 : s.heap.IsList l1 xs) (q2 : s.heap.IsList l2 ys) (hx : xs[k]? = some x) (hy : ys[k]? = some y)
    (fin : ∀ h' o' f' a' b', OutV o' → ZS h' z TI TO o' f' → IsPair h' TO a' b' → h'.IsListIter i1 l1 (k + 1) → h'.IsListIter i2 l2 (k + 1) → IsPair h' s.heap.objs.size x y → h'.objs.size = s.heap.objs.size + 1 →
      (∀ c u, c ≠ z → c ≠ TO → c ≠ i1 → c ≠ i2 → s.heap.get? c = some u → h'.get? c = some u) → Q (.ref s.heap.objs.size) { s with heap := h' }) :
    wpAny (model prog w) A (Builtin.«zip.__next__» ⟨[.ref z], []⟩) (fun r s' => ∃ v, r = .done (.ret v) ∧ Q v s') E s := by
  show wpAny _ _ (field (.ref z) 2 >>= _) _ E s
  refine wpAny_bind (wpAny_field (x := .bool false) hz rfl rfl ?_)
  show wpAny _ _ (field (.ref z) 3 >>= _) _ E s
  refine wpAny_bind (wpAny_field (x := .ref TI) hz rfl rfl ?_)
  refine wpAny_bind (wpAny_seqItems (E := E) hTI rfl ?_)
  show wpAny _ _ (Builtin.SmallTypes.ownedTupleIsFree (.ref z) >>= _) _ E s
  refine wpAny_bind (zs_free hz ho fun bb h0 f0 z0 b0 => ?_)
  have kTO0 : IsPair h0 TO a b := b0.extBut _ _ D.TOz hTO
  have r1 : h0.IsListIter i1 l1 k := p1.extBut b0.extBut D.i1z
  have r2 : h0.IsListIter i2 l2 k := p2.extBut b0.extBut D.i2z
  have s1 : h0.IsList l1 xs := q1.extBut b0.extBut D.l1z
  have s2 : h0.IsList l2 ys := q2.extBut b0.extBut D.l2z
  have sz0 : h0.objs.size = s.heap.objs.size := b0.1
  cases bb with
  | true =>
    simp only [if_true]
    refine wpAny_bind (wpAny_rule ?_)
    refine wpAny_bind (wpAny_field (x := .ref TO) z0 rfl rfl ?_)
    refine wpAny_bind (wpAny_setField_rec z0 (by simp) fun h1 z1 b1 => ?_)
    replace z1 : ZS h1 z TI TO .ellipsis f0 := z1
    replace b1 : Heap.SameBut z h0 h1 := b1
    refine wpAny_bind ?_
    simp only [List.zipIdx_cons, List.zipIdx_nil, List.forIn_cons, List.forIn_nil]
    refine wpAny_bind (wpAny_bind (wpAny_onRaise ?_))
    show wpAny _ _ (Builtin.SmallTypes.nextOf (.ref i1) >>= _) _ _ { s with heap := h1 }
    refine wpAny_bind (wpAny_nextOf_list_item (s := { s with heap := h1 }) (r1.extBut b1.extBut D.i1z) (s1.extBut b1.extBut D.l1z) hx fun h2 t2 b2 => wpAny_pure ?_)
    replace b2 : Heap.SameBut i1 h1 h2 := b2
    have kTO2 : IsPair h2 TO a b := b2.extBut _ _ D.TOi1 (b1.extBut _ _ D.TOz kTO0)
    refine wpAny_bind (wpAny_seqItems (s := { s with heap := h2 }) kTO2 rfl ?_)
    refine wpAny_bind (wpAny_updateSeq_pair (s := { s with heap := h2 }) kTO2 fun h3 k3 b3 => ?_)
    replace k3 : IsPair h3 TO x b := k3
    replace b3 : Heap.SameBut TO h2 h3 := b3
    refine wpAny_bind (wpAny_letGo (wpAny_pure (?_)))
    refine wpAny_bind (wpAny_bind (wpAny_onRaise (?_)))
    show wpAny _ _ (Builtin.SmallTypes.nextOf (.ref i2) >>= _) _ _ { s with heap := h3 }
    refine wpAny_bind (wpAny_nextOf_list_item (s := { s with heap := h3 }) (((r2.extBut b1.extBut D.i2z).extBut b2.extBut D.i12.symm).extBut b3.extBut D.TOi2.symm) (((s2.extBut b1.extBut D.l2z).extBut b2.extBut D.l2i1).extBut b3.extBut D.l2TO) hy fun h4 t4 b4 => wpAny_pure ?_)
    replace b4 : Heap.SameBut i2 h3 h4 := b4
    have k4 : IsPair h4 TO x b := b4.extBut _ _ D.TOi2 k3
    refine wpAny_bind (wpAny_seqItems (s := { s with heap := h4 }) k4 rfl ?_)
    refine wpAny_bind (wpAny_updateSeq_pair (s := { s with heap := h4 }) k4 fun h5 k5 b5 => ?_)
    replace k5 : IsPair h5 TO x y := k5
    replace b5 : Heap.SameBut TO h4 h5 := b5
    refine wpAny_bind (wpAny_letGo (wpAny_pure (wpAny_pure (?_))))
    refine wpAny_bind (wpAny_seqItems (s := { s with heap := h5 }) k5 rfl ?_)
    refine wpAny_bind (wpAny_newTuple (?_))
    have sz5 : h5.objs.size = s.heap.objs.size := by rw [b5.1, b4.1, b3.1, b2.1, b1.1, sz0]
    have z5 : ZS h5 z TI TO .ellipsis f0 := b5.extBut _ _ D.TOz.symm (b4.extBut _ _ D.i2z.symm (b3.extBut _ _ D.TOz.symm (b2.extBut _ _ D.i1z.symm z1)))
    have kk : ∀ c u, c ≠ z → c ≠ TO → c ≠ i1 → c ≠ i2 → s.heap.get? c = some u → h5.get? c = some u := fun c u c1 c2 c3 c4 e =>
      b5.extBut _ _ c2 (b4.extBut _ _ c4 (b3.extBut _ _ c2 (b2.extBut _ _ c3 (b1.extBut _ _ c1 (b0.extBut _ _ c1 e)))))
    have t5 : h5.IsListIter i1 l1 (k + 1) := ((t2.extBut b3.extBut D.TOi1.symm).extBut b4.extBut D.i12).extBut b5.extBut D.TOi1.symm
    have u5 : h5.IsListIter i2 l2 (k + 1) := t4.extBut b5.extBut D.TOi2.symm
    have zl : z < h5.objs.size := Heap.lt_size z5
    show wpAny _ _ (Builtin.SmallTypes.ownedTupleHandOut (.ref z) (.ref h5.objs.size) >>= _) _ _ { s with heap := h5.push { cls := .type "tuple", data := .seq #[x, y] } }
    refine wpAny_bind ?_
    unfold Builtin.SmallTypes.ownedTupleHandOut
    have z6 : ZS (h5.push { cls := .type "tuple", data := .seq #[x, y] }) z TI TO .ellipsis f0 := Heap.get?_push_of_some _ z5
    refine wpAny_bind (wpAny_setField_rec (s := { s with heap := h5.push { cls := .type "tuple", data := .seq #[x, y] } }) z6 (by simp) fun h7 z7 b7 => ?_)
    replace z7 : ZS h7 z TI TO (rawInt h5.objs.size) f0 := z7
    replace b7 : Heap.SameBut z (h5.push { cls := .type "tuple", data := .seq #[x, y] }) h7 := b7
    refine wpAny_setField_rec (s := { s with heap := h7 }) z7 (by simp) fun h8 z8 b8 => ?_
    replace z8 : ZS h8 z TI TO (rawInt h5.objs.size) false := z8
    replace b8 : Heap.SameBut z h7 h8 := b8
    have up : ∀ c u, c ≠ z → h5.get? c = some u → h8.get? c = some u := fun c u c1 e => b8.extBut _ _ c1 (b7.extBut _ _ c1 (Heap.get?_push_of_some _ e))
    have n8 : IsPair h8 h5.objs.size x y := b8.extBut _ _ (Nat.ne_of_gt zl) (b7.extBut _ _ (Nat.ne_of_gt zl) (Heap.get?_push_size _ rfl))
    have sz8 : h8.objs.size = h5.objs.size + 1 := by rw [b8.1, b7.1, Heap.size_push]
    rw [sz5] at n8 sz8
    refine wpAny_pure ⟨_, rfl, (?_)⟩
    show Q (.ref h5.objs.size) { s with heap := h8 }
    rw [sz5]
    exact fin h8 _ _ _ _ (.inr ⟨_, rfl⟩) z8 (up _ _ D.TOz k5) (t5.at fun u e => up _ u D.i1z e) (u5.at fun u e => up _ u D.i2z e) n8 sz8 fun c u c1 c2 c3 c4 e => up c u c1 (kk c u c1 c2 c3 c4 e)
  | false =>
    simp only [Bool.false_eq_true, if_false]
    refine wpAny_bind ?_
    rw [← Array.forIn_toList]
    simp only [List.forIn_cons, List.forIn_nil]
    refine wpAny_bind (wpAny_bind (wpAny_holding (?_)))
    show wpAny _ _ (Builtin.SmallTypes.nextOf (.ref i1) >>= _) _ _ { s with heap := h0 }
    refine wpAny_bind (wpAny_nextOf_list_item (s := { s with heap := h0 }) r1 s1 hx fun h2 t2 b2 => wpAny_pure ?_)
    replace b2 : Heap.SameBut i1 h0 h2 := b2
    refine wpAny_pure (?_)
    refine wpAny_bind (wpAny_bind (wpAny_holding (?_)))
    show wpAny _ _ (Builtin.SmallTypes.nextOf (.ref i2) >>= _) _ _ { s with heap := h2 }
    refine wpAny_bind (wpAny_nextOf_list_item (s := { s with heap := h2 }) (r2.extBut b2.extBut D.i12.symm) (s2.extBut b2.extBut D.l2i1) hy fun h3 t3 b3 => wpAny_pure ?_)
    replace b3 : Heap.SameBut i2 h2 h3 := b3
    refine wpAny_pure (wpAny_pure (?_))
    show wpAny _ _ (newTuple [x, y] >>= _) _ _ { s with heap := h3 }
    refine wpAny_bind (wpAny_newTuple (?_))
    have sz3 : h3.objs.size = s.heap.objs.size := by rw [b3.1, b2.1, sz0]
    have z3 : ZS h3 z TI TO o f0 := b3.extBut _ _ D.i2z.symm (b2.extBut _ _ D.i1z.symm z0)
    have kk : ∀ c u, c ≠ z → c ≠ i1 → c ≠ i2 → s.heap.get? c = some u → h3.get? c = some u := fun c u c1 c2 c3 e => b3.extBut _ _ c3 (b2.extBut _ _ c2 (b0.extBut _ _ c1 e))
    have t4 : h3.IsListIter i1 l1 (k + 1) := t2.extBut b3.extBut D.i12
    refine wpAny_pure ⟨_, rfl, (?_)⟩
    show Q (.ref h3.objs.size) _
    have n4 : IsPair (h3.push { cls := .type "tuple", data := .seq #[x, y] }) h3.objs.size x y := Heap.get?_push_size _ rfl
    have sz4 : (h3.push { cls := .type "tuple", data := .seq #[x, y] }).objs.size = h3.objs.size + 1 := Heap.size_push ..
    rw [sz3] at n4 sz4 ⊢
    exact fin _ _ _ _ _ ho (Heap.get?_push_of_some _ z3) (Heap.get?_push_of_some _ (b3.extBut _ _ D.TOi2 (b2.extBut _ _ D.TOi1 kTO0))) (t4.at fun u e => Heap.get?_push_of_some _ e) (t3.at fun u e => Heap.get?_push_of_some _ e) n4 sz4 fun c u c1 _ c3 c4 e => Heap.get?_push_of_some _ (kk c u c1 c3 c4 e)
theorem zs_end {z TI TO i1 i2 l1 l2 : Addr} {k : Nat} {xs ys : Array Value} {a b o : Value} {f : Bool} {Q : Fin → Shared → Prop} (hh : A.handled = none) (D : ZipApart z TI TO i1 i2 l1 l2)
    (hz : ZS s.heap z TI TO o f) (ho : OutV o) (hTI : IsPair s.heap TI (.ref i1) (.ref i2)) (hTO : IsPair s.heap TO a b)
    (p1 : s.heap.IsListIter i1 l1 k) (p2 : s.heap.IsListIter i2 l2 k) (q1 : s.heap.IsList l1 xs) (q2 : s.heap.IsList l2 ys) (hend : xs[k]? = none ∨ ys[k]? = none)
    (fin : ∀ h' e, (∀ c u, c ≠ z → c ≠ TO → c ≠ i1 → c ≠ i2 → s.heap.get? c = some u → h'.get? c = some u) → (∃ u, h'.get? e = some u ∧ u.cls = .type "StopIteration") → E (.ref e) { s with heap := h' }) :
    wpAny (model prog w) A (Builtin.«zip.__next__» ⟨[.ref z], []⟩) Q E s := by
  show wpAny _ _ (field (.ref z) 2 >>= _) _ E s
  refine wpAny_bind (wpAny_field (x := .bool false) hz rfl rfl ?_)
  show wpAny _ _ (field (.ref z) 3 >>= _) _ E s
  refine wpAny_bind (wpAny_field (x := .ref TI) hz rfl rfl ?_)
  refine wpAny_bind (wpAny_seqItems (E := E) hTI rfl ?_)
  show wpAny _ _ (Builtin.SmallTypes.ownedTupleIsFree (.ref z) >>= _) _ E s
  refine wpAny_bind (zs_free hz ho fun bb h0 f0 z0 b0 => ?_)
  have kTO0 : IsPair h0 TO a b := b0.extBut _ _ D.TOz hTO
  have r1 : h0.IsListIter i1 l1 k := p1.extBut b0.extBut D.i1z
  have r2 : h0.IsListIter i2 l2 k := p2.extBut b0.extBut D.i2z
  have s1 : h0.IsList l1 xs := q1.extBut b0.extBut D.l1z
  have s2 : h0.IsList l2 ys := q2.extBut b0.extBut D.l2z
  cases bb with
  | true =>
    simp only [if_true]
    refine wpAny_bind (wpAny_rule ?_)
    refine wpAny_bind (wpAny_field (x := .ref TO) z0 rfl rfl ?_)
    refine wpAny_bind (wpAny_setField_rec z0 (by simp) fun h1 z1 b1 => ?_)
    replace z1 : ZS h1 z TI TO .ellipsis f0 := z1
    replace b1 : Heap.SameBut z h0 h1 := b1
    refine wpAny_bind ?_
    simp only [List.zipIdx_cons, List.zipIdx_nil, List.forIn_cons, List.forIn_nil]
    refine wpAny_bind (wpAny_bind (wpAny_onRaise (?_)))
    show wpAny _ _ (Builtin.SmallTypes.nextOf (.ref i1) >>= _) _ _ { s with heap := h1 }
    cases hx : xs[k]? with
    | none =>
      refine wpAny_bind (wpAny_nextOf_list_end (s := { s with heap := h1 }) hh (r1.extBut b1.extBut D.i1z) (s1.extBut b1.extBut D.l1z) hx fun h2 e b2 he => ?_)
      obtain ⟨oe, hoe, hce⟩ := he
      replace b2 : Heap.ExtBut i1 h1 h2 := b2
      have z2 : ZS h2 z TI TO .ellipsis f0 := b2 _ _ D.i1z.symm z1
      have ez : e ≠ z := fun x => by subst x; rw [z2] at hoe; cases hoe; simp at hce
      refine wpAny_setField_rec (s := { s with heap := h2 }) z2 (by simp) fun h3 _ b3 => fin h3 e (fun c u c1 _ c3 _ x => b3.extBut _ _ c1 (b2 _ _ c3 (b1.extBut _ _ c1 (b0.extBut _ _ c1 x)))) ⟨oe, b3.extBut _ _ ez hoe, hce⟩
    | some x =>
      have hy : ys[k]? = none := by
        rcases hend with h | h
        · rw [hx] at h; cases h
        · exact h
      refine wpAny_bind (wpAny_nextOf_list_item (s := { s with heap := h1 }) (r1.extBut b1.extBut D.i1z) (s1.extBut b1.extBut D.l1z) hx fun h2 t2 b2 => wpAny_pure ?_)
      replace b2 : Heap.SameBut i1 h1 h2 := b2
      have kTO2 : IsPair h2 TO a b := b2.extBut _ _ D.TOi1 (b1.extBut _ _ D.TOz kTO0)
      refine wpAny_bind (wpAny_seqItems (s := { s with heap := h2 }) kTO2 rfl ?_)
      refine wpAny_bind (wpAny_updateSeq_pair (s := { s with heap := h2 }) kTO2 fun h3 k3 b3 => ?_)
      replace b3 : Heap.SameBut TO h2 h3 := b3
      refine wpAny_bind (wpAny_letGo (wpAny_pure (?_)))
      refine wpAny_bind (wpAny_bind (wpAny_onRaise (?_)))
      show wpAny _ _ (Builtin.SmallTypes.nextOf (.ref i2) >>= _) _ _ { s with heap := h3 }
      refine wpAny_bind (wpAny_nextOf_list_end (s := { s with heap := h3 }) hh (((r2.extBut b1.extBut D.i2z).extBut b2.extBut D.i12.symm).extBut b3.extBut D.TOi2.symm) (((s2.extBut b1.extBut D.l2z).extBut b2.extBut D.l2i1).extBut b3.extBut D.l2TO) hy fun h4 e b4 he => ?_)
      obtain ⟨oe, hoe, hce⟩ := he
      replace b4 : Heap.ExtBut i2 h3 h4 := b4
      have z4 : ZS h4 z TI TO .ellipsis f0 := b4 _ _ D.i2z.symm (b3.extBut _ _ D.TOz.symm (b2.extBut _ _ D.i1z.symm z1))
      have ez : e ≠ z := fun x => by subst x; rw [z4] at hoe; cases hoe; simp at hce
      refine wpAny_setField_rec (s := { s with heap := h4 }) z4 (by simp) fun h5 _ b5 => fin h5 e (fun c u c1 c2 c3 c4 x => b5.extBut _ _ c1 (b4 _ _ c4 (b3.extBut _ _ c2 (b2.extBut _ _ c3 (b1.extBut _ _ c1 (b0.extBut _ _ c1 x)))))) ⟨oe, b5.extBut _ _ ez hoe, hce⟩
  | false =>
    simp only [Bool.false_eq_true, if_false]
    refine wpAny_bind ?_
    rw [← Array.forIn_toList]
    simp only [List.forIn_cons, List.forIn_nil]
    refine wpAny_bind (wpAny_bind (wpAny_holding (?_)))
    show wpAny _ _ (Builtin.SmallTypes.nextOf (.ref i1) >>= _) _ _ { s with heap := h0 }
    cases hx : xs[k]? with
    | none =>
      refine wpAny_bind (wpAny_nextOf_list_end (s := { s with heap := h0 }) hh r1 s1 hx fun h2 e b2 he => ?_)
      exact fin h2 e (fun c u c1 _ c3 _ x => b2 _ _ c3 (b0.extBut _ _ c1 x)) he
    | some x =>
      have hy : ys[k]? = none := by
        rcases hend with h | h
        · rw [hx] at h; cases h
        · exact h
      refine wpAny_bind (wpAny_nextOf_list_item (s := { s with heap := h0 }) r1 s1 hx fun h2 t2 b2 => wpAny_pure ?_)
      replace b2 : Heap.SameBut i1 h0 h2 := b2
      refine wpAny_pure (?_)
      refine wpAny_bind (wpAny_bind (wpAny_holding (?_)))
      show wpAny _ _ (Builtin.SmallTypes.nextOf (.ref i2) >>= _) _ _ { s with heap := h2 }
      refine wpAny_bind (wpAny_nextOf_list_end (s := { s with heap := h2 }) hh (r2.extBut b2.extBut D.i12.symm) (s2.extBut b2.extBut D.l2i1) hy fun h3 e b3 he => ?_)
      exact fin h3 e (fun c u c1 _ c3 c4 x => b3 _ _ c4 (b2.extBut _ _ c3 (b0.extBut _ _ c1 x))) he
end
end VS

set_option Elab.async false
set_option linter.all false
set_option maxRecDepth 100000
set_option maxHeartbeats 4000000
namespace VS
open PySem PySem.Spec PyProof.Rows L2
section
variable {prog : Program} {w : World} {A : Around} {E : Value → Shared → Prop} {s : Shared}
/-- enumerate's next over whatever the inner one does -/
theorem enumAny_item {e it : Addr} {c : Int} {old : Value} {Gx : Value → Heap → Prop} {Q : Value → Shared → Prop} (he : IsEnum s.heap e it c old)
    (hn : ∀ Q' : Value → Shared → Prop, (∀ x h1, Gx x h1 → IsEnum h1 e it c old → Q' x { s with heap := h1 }) → wpAny (model prog w) A (Builtin.SmallTypes.nextOf (.ref it)) Q' E s)
    (fin : ∀ x h1 h', Gx x h1 → IsEnum h1 e it c old → IsEnumOut h' e it (c + 1) x h1.objs.size → h'.get? h1.objs.size = some { cls := .type "tuple", data := .seq #[.int c s.toks, x] } → h'.objs.size = h1.objs.size + 1 →
      (∀ b o, b ≠ e → h1.get? b = some o → h'.get? b = some o) → Q (.ref h1.objs.size) { s with heap := h', toks := s.toks + 1 }) :
    wpAny (model prog w) A (Builtin.«enumerate.__next__» ⟨[.ref e], []⟩) (fun r s' => ∃ v, r = .done (.ret v) ∧ Q v s') E s := by
  obtain ⟨hp, g, d, tk, os⟩ := s
  show wpAny _ _ (field (.ref e) 2 >>= _) _ E _
  refine wpAny_bind (wpAny_field (x := .ref it) he rfl rfl ?_)
  refine wpAny_bind (hn _ fun x h1 gx e1 => ?_)
  show wpAny _ _ (field (.ref e) 3 >>= _) _ E ⟨h1, g, d, tk, os⟩
  refine wpAny_bind (wpAny_field (x := rawInt c) e1 rfl rfl ?_)
  show wpAny _ _ (field (.ref e) 4 >>= _) _ E ⟨h1, g, d, tk, os⟩
  refine wpAny_bind (wpAny_field (x := .none) e1 rfl rfl ?_)
  show wpAny _ _ (mkInt c >>= _) _ E ⟨h1, g, d, tk, os⟩
  refine wpAny_bind (wpAny_mkInt (?_))
  show wpAny _ _ (setField (.ref e) 3 (rawInt (c + 1)) >>= _) _ E ⟨h1, g, d, tk + 1, os⟩
  refine wpAny_bind (wpAny_setField_rec (s := ⟨h1, g, d, tk + 1, os⟩) e1 (by simp) fun h2 e2 b2 => ?_)
  replace b2 : Heap.SameBut e h1 h2 := b2
  replace e2 : IsEnum h2 e it (c + 1) old := e2
  show wpAny _ _ (setField (.ref e) 4 .none >>= _) _ E ⟨h2, g, d, tk + 1, os⟩
  refine wpAny_bind (wpAny_setField_rec (s := ⟨h2, g, d, tk + 1, os⟩) e2 (by simp) fun h3 e3 b3 => ?_)
  replace b3 : Heap.SameBut e h2 h3 := b3
  replace e3 : IsEnum h3 e it (c + 1) old := e3
  show wpAny _ _ (newTuple [.int c tk, x] >>= _) _ E ⟨h3, g, d, tk + 1, os⟩
  refine wpAny_bind (wpAny_newTuple (?_))
  have e4 : IsEnum (h3.push { cls := .type "tuple", data := .seq #[.int c tk, x] }) e it (c + 1) old := Heap.get?_push_of_some _ e3
  generalize eq4 : h3.push { cls := .type "tuple", data := .seq #[.int c tk, x] } = h4 at e4
  have sz3 : h3.objs.size = h1.objs.size := by rw [b3.1, b2.1]
  have el : e < h1.objs.size := Heap.lt_size e1
  have t4 : h4.get? h1.objs.size = some { cls := .type "tuple", data := .seq #[.int c tk, x] } := by rw [← eq4, ← sz3]; exact Heap.get?_push_size _ rfl
  have sz4 : h4.objs.size = h1.objs.size + 1 := by rw [← eq4, Heap.size_push, sz3]
  have k4 : ∀ b o, b ≠ e → h1.get? b = some o → h4.get? b = some o := fun b o hb q => by
    rw [← eq4]; exact Heap.get?_push_of_some _ (b3.extBut b o hb (b2.extBut b o hb q))
  show wpAny _ _ (Builtin.SmallTypes.ownedTupleIsFree (.ref e) >>= _) _ E ⟨h4, g, d, tk + 1, os⟩
  rw [sz3]
  clear eq4 e3 b3 e2 b2 sz3 h3 h2
  refine wpAny_bind (?_)
  unfold Builtin.SmallTypes.ownedTupleIsFree
  refine wpAny_bind (wpAny_field (x := .none) e4 rfl rfl (wpAny_pure ?_))
  simp only [if_true]
  refine wpAny_bind (wpAny_rule (?_))
  refine wpAny_bind (wpAny_field (x := old) e4 rfl rfl ?_)
  refine wpAny_bind (wpAny_setField_rec (s := ⟨h4, g, d, tk + 1, os⟩) e4 (by simp) fun h5 e5 b5 => ?_)
  replace b5 : Heap.SameBut e h4 h5 := b5
  replace e5 : IsEnum h5 e it (c + 1) x := e5
  show wpAny _ _ (Builtin.SmallTypes.ownedTupleHandOut (.ref e) (.ref h1.objs.size) >>= _) _ E ⟨h5, g, d, tk + 1, os⟩
  refine wpAny_bind (?_)
  unfold Builtin.SmallTypes.ownedTupleHandOut
  refine wpAny_bind (wpAny_setField_rec (s := ⟨h5, g, d, tk + 1, os⟩) e5 (by simp) fun h6 e6 b6 => ?_)
  replace b6 : Heap.SameBut e h5 h6 := b6
  replace e6 : IsEnumOut h6 e it (c + 1) x h1.objs.size := e6
  refine wpAny_setField_rec (s := ⟨h6, g, d, tk + 1, os⟩) e6 (by simp) fun h7 e7 b7 => ?_
  replace b7 : Heap.SameBut e h6 h7 := b7
  replace e7 : IsEnumOut h7 e it (c + 1) x h1.objs.size := e7
  refine wpAny_bind (wpAny_letGo (wpAny_pure ⟨_, rfl, fin x h1 h7 gx e1 e7 ?_ ?_ ?_⟩))
  · exact b7.extBut _ _ (Nat.ne_of_gt el) (b6.extBut _ _ (Nat.ne_of_gt el) (b5.extBut _ _ (Nat.ne_of_gt el) t4))
  · rw [b7.1, b6.1, b5.1, sz4]
  · exact fun b o hb q => b7.extBut b o hb (b6.extBut b o hb (b5.extBut b o hb (k4 b o hb q)))
theorem zs_nextOf {z TI TO i1 i2 l1 l2 : Addr} {k : Nat} {xs ys : Array Value} {x y a b o : Value} {f : Bool} {Q : Value → Shared → Prop} (D : ZipApart z TI TO i1 i2 l1 l2)
    (hz : ZS s.heap z TI TO o f) (ho : OutV o) (hTI : IsPair s.heap TI (.ref i1) (.ref i2)) (hTO : IsPair s.heap TO a b)
    (p1 : s.heap.IsListIter i1 l1 k) (p2 : s.heap.IsListIter i2 l2 k) (q1 : s.heap.IsList l1 xs) (q2 : s.heap.IsList l2 ys) (hx : xs[k]? = some x) (hy : ys[k]? = some y)
    (fin : ∀ h' o' f' a' b', OutV o' → ZS h' z TI TO o' f' → IsPair h' TO a' b' → h'.IsListIter i1 l1 (k + 1) → h'.IsListIter i2 l2 (k + 1) → IsPair h' s.heap.objs.size x y → h'.objs.size = s.heap.objs.size + 1 →
      (∀ c u, c ≠ z → c ≠ TO → c ≠ i1 → c ≠ i2 → s.heap.get? c = some u → h'.get? c = some u) → Q (.ref s.heap.objs.size) { s with heap := h' }) :
    wpAny (model prog w) A (Builtin.SmallTypes.nextOf (.ref z)) Q E s := by
  have ty : s.TypeIs (.ref z) "zip" := ⟨_, hz, rfl⟩
  unfold Builtin.SmallTypes.nextOf
  exact wpAny_bind (wpAny_callSpecial?_slot (name := Str.ofString "__next__") ty F.slot_zip_next (wpAny_call_entry F.slot_zip_next ty F.entry_zip_next
    (zs_item D hz ho hTI hTO p1 p2 q1 q2 hx hy fun h' o' f' a' b' g1 g2 g3 g4 g5 g6 g7 g8 => wpAny_pure (fin h' o' f' a' b' g1 g2 g3 g4 g5 g6 g7 g8)) (F.args_zip_next_1 _)))
theorem zs_nextOf_end {z TI TO i1 i2 l1 l2 : Addr} {k : Nat} {xs ys : Array Value} {a b o : Value} {f : Bool} {Q : Value → Shared → Prop} (hh : A.in1.handled = none) (D : ZipApart z TI TO i1 i2 l1 l2)
    (hz : ZS s.heap z TI TO o f) (ho : OutV o) (hTI : IsPair s.heap TI (.ref i1) (.ref i2)) (hTO : IsPair s.heap TO a b)
    (p1 : s.heap.IsListIter i1 l1 k) (p2 : s.heap.IsListIter i2 l2 k) (q1 : s.heap.IsList l1 xs) (q2 : s.heap.IsList l2 ys) (hend : xs[k]? = none ∨ ys[k]? = none)
    (fin : ∀ h' e, (∀ c u, c ≠ z → c ≠ TO → c ≠ i1 → c ≠ i2 → s.heap.get? c = some u → h'.get? c = some u) → (∃ u, h'.get? e = some u ∧ u.cls = .type "StopIteration") → E (.ref e) { s with heap := h' }) :
    wpAny (model prog w) A (Builtin.SmallTypes.nextOf (.ref z)) Q E s := by
  have ty : s.TypeIs (.ref z) "zip" := ⟨_, hz, rfl⟩
  unfold Builtin.SmallTypes.nextOf
  exact wpAny_bind (wpAny_callSpecial?_slot (name := Str.ofString "__next__") ty F.slot_zip_next (wpAny_call_entry F.slot_zip_next ty F.entry_zip_next
    (zs_end hh D hz ho hTI hTO p1 p2 q1 q2 hend fin) (F.args_zip_next_1 _)))
end
end VS

set_option Elab.async false
set_option linter.all false
set_option maxRecDepth 100000
set_option maxHeartbeats 4000000
namespace VS
open PySem PySem.Spec PyProof.Rows L2
def ItEZ (K : PySem.W.Frag) (a b : Addr) : It :=
  ⟨fun i H => ∃ (xs ys : List V) (x y : V), SqL K H a xs ∧ SqL K H b ys ∧ xs[i]? = some x ∧ ys[i]? = some y,
    fun i H v H' => ∃ T1 T2 x y, v = .ref T2 ∧ H T1 = none ∧ H T2 = none ∧ T1 ≠ T2 ∧ H' = upd (upd H T1 (.tup [x, y])) T2 (.tup [.int (i : Nat), .ref T1]) ∧ (∀ xs, SqL K H a xs → xs[i]? = some x) ∧ ∀ ys, SqL K H b ys → ys[i]? = some y,
    fun i H => ∃ xs ys : List V, SqL K H a xs ∧ SqL K H b ys ∧ (xs.length ≤ i ∨ ys.length ≤ i)⟩
structure EApart (e z TI TO i1 i2 : Addr) : Prop where
  z : e ≠ z
  TI : e ≠ TI
  TO : e ≠ TO
  i1 : e ≠ i1
  i2 : e ≠ i2
theorem apart5 (n : Nat) : EApart (n + 5) (n + 4) (n + 2) (n + 3) n (n + 1) := ⟨Nat.ne_of_gt (by omega), Nat.ne_of_gt (by omega), Nat.ne_of_gt (by omega), Nat.ne_of_gt (by omega), Nat.ne_of_gt (by omega)⟩
def tnEZ (a b e z TI TO i1 i2 : Addr) (i : Nat) (h : Heap) : Prop :=
  (∃ old, IsEnum h e z (0 + (i : Int)) old) ∧ (∃ o f, OutV o ∧ ZS h z TI TO o f) ∧ IsPair h TI (.ref i1) (.ref i2) ∧ (∃ x y, IsPair h TO x y) ∧ h.IsListIter i1 a i ∧ h.IsListIter i2 b i
theorem upd_none {H : Hp} {T b : Addr} {o : HO} (h : H b = none) (n : b ≠ T) : upd H T o b = none := by rw [upd_ne n]; exact h
theorem turn_enumZ {P : Program} {w : World} {K : PySem.W.Frag} {elts : List Expr} {kk : Nat} {tpos : Pos} {a b e z TI TO i1 i2 : Addr} (D : ZipApart z TI TO i1 i2 a b) (D2 : EApart e z TI TO i1 i2) :
    Turn P w K (.Tuple elts kk tpos) (ItEZ K a b) [e, z, TI, TO, i1, i2] e (tnEZ a b e z TI TO i1 i2) where
  mem := List.mem_cons_self
  obj := by
    rintro i h ⟨⟨old, he⟩, ⟨o, f, _, hz⟩, hTI, ⟨x, y, hTO⟩, ⟨o1, e1, _, d1⟩, ⟨o2, e2, _, d2⟩⟩ c hc
    simp only [List.mem_cons, List.not_mem_nil, or_false] at hc
    rcases hc with q | q | q | q | q | q
    · rw [q]; exact ⟨_, he, fun v q => nomatch q⟩
    · rw [q]; exact ⟨_, hz, fun v q => nomatch q⟩
    · rw [q]; exact ⟨_, hTI, fun v q => nomatch q⟩
    · rw [q]; exact ⟨_, hTO, fun v q => nomatch q⟩
    · rw [q]; exact ⟨o1, e1, fun v r => by rw [d1] at r; cases r⟩
    · rw [q]; exact ⟨o2, e2, fun v r => by rw [d2] at r; cases r⟩
  keep := by
    rintro i h h' ⟨⟨old, he⟩, ⟨o, f, ho, hz⟩, hTI, ⟨x, y, hTO⟩, t1, t2⟩ k
    exact ⟨⟨old, k e (by simp) _ he⟩, ⟨o, f, ho, k z (by simp) _ hz⟩, k TI (by simp) _ hTI, ⟨x, y, k TO (by simp) _ hTO⟩, t1.at fun o q => k i1 (by simp) o q, t2.at fun o q => k i2 (by simp) o q⟩
  item := by
    rintro X rfl rfl rfl hc i pins s σ H E I hf ⟨⟨old, he⟩, ⟨o, f, ho, hz⟩, hTI, ⟨x0, y0, hTO⟩, t1, t2⟩ ⟨xs, ys, x, y, hqx, hqy, hx, hy⟩
    obtain ⟨its, rv, p, _⟩ := I.list hqx
    obtain ⟨its2, rv2, p2, _⟩ := I.list hqy
    obtain ⟨u, hu, ru⟩ := rv.get hx
    obtain ⟨u2, hu2, ru2⟩ := rv2.get hy
    have el : e < s.heap.objs.size := Heap.lt_size he
    have ty : s.TypeIs (.ref e) "enumerate" := ⟨_, he, rfl⟩
    unfold pyNext
    refine wpAny_bind (wpAny_attempt (wpAny_callSpecial?_slot (name := Str.ofString "__next__") ty F.slot_enumerate_next (wpAny_call_entry F.slot_enumerate_next ty F.entry_enumerate_next
      (enumAny_item (Gx := fun v h1 => v = .ref s.heap.objs.size ∧ ∃ o' f' a' b', OutV o' ∧ ZS h1 z TI TO o' f' ∧ IsPair h1 TO a' b' ∧ h1.IsListIter i1 a (i + 1) ∧ h1.IsListIter i2 b (i + 1) ∧ IsPair h1 s.heap.objs.size u u2 ∧ h1.objs.size = s.heap.objs.size + 1 ∧
        (∀ c u, c ≠ z → c ≠ TO → c ≠ i1 → c ≠ i2 → s.heap.get? c = some u → h1.get? c = some u)) he (fun Q' q' => zs_nextOf D hz ho hTI hTO t1 t2 p.isList p2.isList (x := u) (y := u2) (by simpa using hu) (by simpa using hu2)
          fun h' o' f' a' b' g1 g2 g3 g4 g5 g6 g7 g8 => q' _ h' ⟨rfl, o', f', a', b', g1, g2, g3, g4, g5, g6, g7, g8⟩ (g8 e _ D2.z D2.TO D2.i1 D2.i2 he)) ?_) (F.args_enumerate_next_1 _))))
    rintro v h1 h2 ⟨rfl, o', f', a', b', g1, g2, g3, g4, g5, g6, g7, g8⟩ e1 e2 n2 sz2 k2
    refine wpAny_pure ⟨_, rfl, wpAny_letOwnedTupleGo_enum (s := { s with heap := h2, toks := s.toks + 1 }) e2 fun h3 e3 b3 => ?_⟩
    replace b3 : Heap.SameBut e h2 h3 := b3
    have k3 : ∀ c u, c ≠ e → h1.get? c = some u → h3.get? c = some u := fun c u n q => b3.extBut c u n (k2 c u n q)
    have new1 : ObjOk X.prog X.w (upd H s.heap.objs.size (.tup [x, y])) h1 s.heap.objs.size (.tup [x, y]) := ⟨by show 2 ≤ sizeLine; decide, [u, u2], .cons ru (.cons ru2 .nil), ⟨_, g6, rfl, _, rfl⟩⟩
    have I1 : Inv X pins σ (upd H s.heap.objs.size (.tup [x, y])) { s with heap := h1, toks := s.toks } :=
      I.turnedNew (t' := s.toks) (ch := [e, z, TI, TO, i1, i2]) (fun c o hb q => g8 c o (fun q' => hb (by simp [q'])) (fun q' => hb (by simp [q'])) (fun q' => hb (by simp [q'])) (fun q' => hb (by simp [q'])) q) hf (Nat.le_refl _) new1
    have lt : ∀ c ∈ [e, z, TI, TO, i1, i2], c < s.heap.objs.size := by
      intro c hc
      simp only [List.mem_cons, List.not_mem_nil, or_false] at hc
      rcases hc with q | q | q | q | q | q
      · rw [q]; exact el
      · rw [q]; exact Heap.lt_size hz
      · rw [q]; exact Heap.lt_size hTI
      · rw [q]; exact Heap.lt_size hTO
      · rw [q]; obtain ⟨_, q1, _⟩ := t1; exact Heap.lt_size q1
      · rw [q]; obtain ⟨_, q1, _⟩ := t2; exact Heap.lt_size q1
    have hf1 : ∀ c ∈ [e, z, TI, TO, i1, i2], FpOk X pins (upd H s.heap.objs.size (.tup [x, y])) c := fun c hc => by
      obtain ⟨f1, f2⟩ := hf c hc
      exact ⟨upd_none f1 (Nat.ne_of_lt (lt c hc)), f2⟩
    have hN1 : (upd H s.heap.objs.size (.tup [x, y])) h1.objs.size = none := I1.hok.fresh (Nat.le_refl _)
    have new2 : ObjOk X.prog X.w (upd (upd H s.heap.objs.size (.tup [x, y])) h1.objs.size (.tup [.int (i : Nat), .ref s.heap.objs.size])) h3 h1.objs.size (.tup [.int (i : Nat), .ref s.heap.objs.size]) := by
      refine ⟨by show 2 ≤ sizeLine; decide, [.int (0 + (i : Int)) s.toks, .ref s.heap.objs.size], .cons ⟨s.toks, by rw [Int.zero_add]⟩ (.cons rfl .nil), ⟨_, b3.extBut _ _ (Nat.ne_of_gt (Nat.lt_of_lt_of_le el (by omega))) n2, rfl, _, rfl⟩⟩
    have I2 : Inv X pins σ (upd (upd H s.heap.objs.size (.tup [x, y])) h1.objs.size (.tup [.int (i : Nat), .ref s.heap.objs.size])) { s with heap := h3, toks := s.toks + 1 } :=
      I1.turnedNew (s := { s with heap := h1, toks := s.toks }) (t' := s.toks + 1) (ch := [e, z, TI, TO, i1, i2]) (fun c o hb q => k3 c o (fun q' => hb (by simp [q'])) q) hf1 (Nat.le_refl _) new2
    refine ⟨.ref h1.objs.size, _, I2, rfl, ⟨_, _, x, y, rfl, I.hok.fresh (Nat.le_refl _), I.hok.fresh (by omega), Nat.ne_of_lt (by omega), rfl, fun l hl => by rw [I.list_inj hl hqx]; exact hx, fun l hl => by rw [I.list_inj hl hqy]; exact hy⟩, ⟨⟨.ref s.heap.objs.size, ?_⟩, ⟨o', f', g1, k3 z _ D2.z.symm g2⟩, k3 TI _ D2.TI.symm (g8 TI _ D.TIz D.TITO D.TIi1 D.TIi2 hTI), ⟨a', b', k3 TO _ D2.TO.symm g3⟩, g4.at fun o q => k3 i1 o D2.i1.symm q, g5.at fun o q => k3 i2 o D2.i2.symm q⟩, fun c hcm => ?_⟩
    · have q : (0 : Int) + ((i + 1 : Nat) : Int) = 0 + (i : Int) + 1 := by omega
      rw [q]
      exact e3
    · have q := lt c hcm
      have q2 : s.heap.objs.size < h1.objs.size := by rw [g7]; exact Nat.lt_succ_self _
      rw [upd_ne (Nat.ne_of_lt (Nat.lt_trans q q2)), upd_ne (Nat.ne_of_lt q)]
      exact (hf c hcm).1
  done := by
    rintro X rfl rfl rfl hc i pins s σ H E I hf ⟨⟨old, he⟩, ⟨o, f, ho, hz⟩, hTI, ⟨x0, y0, hTO⟩, t1, t2⟩ ⟨xs, ys, hqx, hqy, hend⟩
    obtain ⟨its, rv, p, _⟩ := I.list hqx
    obtain ⟨its2, rv2, p2, _⟩ := I.list hqy
    have l1 := rv.length
    have l2 := rv2.length
    have hen : its.toArray[i]? = none ∨ its2.toArray[i]? = none := by
      rcases hend with q | q
      · exact .inl (by simp; omega)
      · exact .inr (by simp; omega)
    have ty : s.TypeIs (.ref e) "enumerate" := ⟨_, he, rfl⟩
    unfold pyNext
    refine wpAny_bind (wpAny_attempt (wpAny_callSpecial?_slot (name := Str.ofString "__next__") ty F.slot_enumerate_next (wpAny_call_entry F.slot_enumerate_next ty F.entry_enumerate_next ?_ (F.args_enumerate_next_1 _))))
    show wpAny _ _ (field (.ref e) 2 >>= _) _ _ s
    refine wpAny_bind (wpAny_field (x := .ref z) he rfl rfl ?_)
    refine wpAny_bind (zs_nextOf_end (I.ok.hd hc) D hz ho hTI hTO t1 t2 p.isList p2.isList hen fun h' x kp hx' => ?_)
    obtain ⟨ob, hob, hcl⟩ := hx'
    refine wpAny_bind (wpAny_isInstance (T := "StopIteration") (b := true) ⟨ob, hob, hcl⟩ isSubtype_stop ?_)
    exact wpAny_pure ⟨rfl, I.turnedL (t' := s.toks) (ch := [e, z, TI, TO, i1, i2]) (fun c o hb q => kp c o (fun q' => hb (by simp [q'])) (fun q' => hb (by simp [q'])) (fun q' => hb (by simp [q'])) (fun q' => hb (by simp [q'])) q) hf⟩
  self := by
    rintro A i s Q E ⟨⟨old, he⟩, _⟩ h
    exact wpAny_pyIter_enum he h
theorem made_enumZ (z TI TO : Addr) : Meets (Builtin.«enumerate.__new__» ⟨[.type "enumerate", .ref z], []⟩)
    (fun _ R s => IsZip s.heap z TI TO .none ∧ R (.ok (.ret (.ref s.heap.objs.size))) { s with heap := s.heap.push (enumAt z) }) := by
  refine .of_wp fun prog w A R s q => ?_
  rcases s with ⟨h0, gs, dr, tk, os⟩
  rcases q with ⟨ht, q⟩
  have known := sub_enumerate
  have begins : ∀ {A' : Around} {E : Value → Shared → Prop} {Q : Value → Shared → Prop}, Q (.ref z) ⟨h0, gs, dr, tk, os⟩ → wpAny (model prog w) A' (pyIter (.ref z)) Q E ⟨h0, gs, dr, tk, os⟩ :=
    fun zz => wpAny_pyIter_zip (s := ⟨h0, gs, dr, tk, os⟩) ht zz
  wp_walk using begins
  refine wpAny_stack_any fun st => wpAny_pure ?_
  split
  · rename_i cl _ _ _ _ _
    cases (cl == Value.type "enumerate") <;> (wp_walk using begins; exact ⟨_, rfl, q⟩)
  · wp_walk using begins
    exact ⟨_, rfl, q⟩
theorem call_enumZ {prog : Program} {w : World} {A : Around} {E : Value → Shared → Prop} {s : Shared} {z TI TO : Addr} {Q : Value → Shared → Prop} (ht : IsZip s.heap z TI TO .none)
    (q : ∀ h', IsEnum h' s.heap.objs.size z 0 .none → (∀ b o, s.heap.get? b = some o → h'.get? b = some o) → Q (.ref s.heap.objs.size) { s with heap := h' }) :
    wpAny (model prog w) A (call (.type "enumerate") [.ref z]) Q E s := by
  have at1 : IsEnum (s.heap.push (enumAt z)) s.heap.objs.size z 0 .none := Heap.get?_push_size s.heap (o := enumAt z) rfl
  have fin := q _ at1 fun b o zz => Heap.get?_push_of_some _ zz
  exact callType_new F.called_enumerate (by decide) (F.typeCall_enumerate_1 _) (F.newCall_enumerate_1 _) (fun ob => F.args_object_init_2 ob _) F.entry_enumerate_new (made_enumZ z TI TO) ⟨ht, ⟨_, at1, rfl⟩, fin⟩
def iEnumZ (K : PySem.W.Frag) (ta : TA) : TI := fun σ H R => ta σ H fun vs H1 => ∃ a b xs ys, vs = [.ref a, .ref b] ∧ SqL K H1 a xs ∧ SqL K H1 b ys ∧ R (ItEZ K a b) H1
theorem pi_enumZ {X : Cx} {e e2 : Expr} {ta : TA} {p p2 pos pos2 tpos : Pos} {elts : List Expr} {kk : Nat} (hg : Gl X "enumerate") (hm : X.mg "enumerate" = none) (hg2 : Gl X "zip") (hm2 : X.mg "zip" = none) (ha : PA X [e, e2] ta)
    (one : starEach [(.Call (.Name "zip" p2) [e, e2] [] pos2)] X.env = [(false, eval (.Call (.Name "zip" p2) [e, e2] [] pos2) X.env)] := by rfl)
    (hs : starEach [e, e2] X.env = (false, eval e X.env) :: starEach [e2] X.env := by rfl) (hpl : (backTo pos2 (starEach [e2] X.env)).any (·.1) = false := by rfl) :
    PI X (.Tuple elts kk tpos) (.Call (.Name "enumerate" p) [.Call (.Name "zip" p2) [e, e2] [] pos2] [] pos) (iEnumZ X.K ta) := by
  constructor
  intro pins s σ H R I q
  refine Call_ (ld_blt I hg hm boot_enumerate (PyProof.Rows.callWith_type1 ?_ one rfl))
  rw [one]
  show wpAny _ _ (spliced ((false, eval (.Call (.Name "zip" p2) [e, e2] [] pos2) X.env) :: [])) _ _ s
  refine Calls.spliced_cons (Call_ (ld_blt I hg2 hm2 PyProof.Rows.boot_zip (PyProof.Rows.callWith_type1 (thn (ha.run pos2 pins s σ H _ I q) ?_) hs hpl)))
  rintro us s1 ⟨vs, H1, I1, r1, a, b, xs, ys, rfl, hqx, hqy, fin⟩
  cases r1 with
  | cons r rr =>
    cases rr with
    | cons r' rr =>
      cases rr
      cases r
      cases r'
      obtain ⟨its, rv, p1, _⟩ := I1.list hqx
      obtain ⟨its2, rv2, p2, _⟩ := I1.list hqy
      have la : a < s1.heap.objs.size := p1.lt
      have lb : b < s1.heap.objs.size := p2.lt
      refine call_zip_2 p1.isList p2.isList fun h' hz hTI hTO h1 h2 hsz hk => Calls.spliced_nil ?_
      refine call_enumZ (s := { s1 with heap := h' }) hz fun h3 he hk3 => wpAny_pyIter_enum he ?_
      have I2 : Inv X pins σ H1 { s1 with heap := h3 } := I1.kept (t' := s1.toks) fun c o q => hk3 c o (hk c o q)
      have E5 : (Shared.heap { s1 with heap := h' }).objs.size = s1.heap.objs.size + 5 := hsz
      rw [E5] at he ⊢
      refine ⟨s1.heap.objs.size + 5, [s1.heap.objs.size + 5, s1.heap.objs.size + 4, s1.heap.objs.size + 2, s1.heap.objs.size + 3, s1.heap.objs.size, s1.heap.objs.size + 1], _, _, H1, rfl, I2, turn_enumZ (PySem.W.ktu_apart s1.heap.objs.size a b la lb) (apart5 s1.heap.objs.size),
        ⟨⟨.none, he⟩, ⟨.none, false, .inl rfl, hk3 _ _ hz⟩, hk3 _ _ hTI, ⟨_, _, hk3 _ _ hTO⟩, h1.at fun o q => hk3 _ o q, h2.at fun o q => hk3 _ o q⟩, fun c hcm => ?_, fin⟩
      have le : s1.heap.objs.size ≤ c := by
        simp only [List.mem_cons, List.not_mem_nil, or_false] at hcm
        rcases hcm with q | q | q | q | q | q <;> (rw [q]; first | exact Nat.le_add_right _ _ | exact Nat.le_refl _)
      exact I1.fpOk le (I1.hok.fresh le)
/-- the data: (place, (x, y)) -/
def iEnZ (a : SA) : SI := fun ρ => match a ρ with
  | some ([.lst xs, .lst ys], ρ') => some (enumF 0 (zipD xs ys), ρ')
  | _ => none
section
variable {c : Ctx} {X : Cx}
theorem yields_enumZ {K : PySem.W.Frag} {F0 : Hp} {a b : Addr} {us ws : List V} {ds es : List D} (h : F0 a = some (.lst us)) (r : Reps c.G F0 us ds) (h' : F0 b = some (.lst ws)) (r' : Reps c.G F0 ws es) : Yields c.G (ItEZ K a b) F0 (enumF 0 (zipD ds es)) := by
  intro F H e1 e2
  have hH : SqL K H a us := .of (e2 _ _ (e1 _ _ h))
  have hH' : SqL K H b ws := .of (e2 _ _ (e1 _ _ h'))
  refine ⟨fun i d hd => ?_, us, ws, hH, hH', by rw [enumF_length, zipD_length, r.length, r'.length]; omega⟩
  rw [enumF_get] at hd
  cases ez : (zipD ds es)[i]? with
  | none => rw [ez] at hd; cases hd
  | some d0 =>
    rw [ez] at hd; cases hd
    obtain ⟨x, y, g1, g2, rfl⟩ := zipD_get ez
    obtain ⟨v, h1, h2⟩ := r.get g1
    obtain ⟨v', h1', h2'⟩ := r'.get g2
    refine ⟨⟨us, ws, v, v', hH, hH', h1, h1'⟩, fun q H' yy => ?_⟩
    obtain ⟨T1, T2, w, w', y1, y2, y3, y4, y5, y6, y7⟩ := yy
    have := y6 us hH
    rw [h1] at this; cases this
    have := y7 ws hH'
    rw [h1'] at this; cases this
    subst y1 y5
    have G1 : Grow F H (upd F T1 (.tup [v, v'])) (upd H T1 (.tup [v, v'])) := .new e2 y2
    have n2 : (upd H T1 (.tup [v, v'])) T2 = none := by rw [upd_ne y4.symm]; exact y3
    have G2 := Grow.new (o := .tup [.int (i : Nat), .ref T1]) G1.fh n2
    have ex := Ext.upd (o := .tup [v, v']) (ext_none e2 y2)
    have ex2 := Ext.upd (o := .tup [.int (i : Nat), .ref T1]) (ext_none G1.fh n2)
    refine ⟨_, G1.trans G2, .tup upd_same (.cons ?_ (.cons ?_ .nil))⟩
    · rw [Nat.zero_add]
      exact .int _
    · refine .tup (ex2 _ _ upd_same) (.cons (((h2.ext e1).ext ex).ext ex2) (.cons (((h2'.ext e1).ext ex).ext ex2) .nil))
theorem vi_enumZ {e e2 : Expr} {sa : SA} {p p2 pos pos2 tpos : Pos} {elts : List Expr} {kk : Nat} (hm : X.mg "enumerate" = none) (hm2 : X.mg "zip" = none) (ha : PA X [e, e2] (va c sa)) (hg : Gl X "enumerate" := by rfl) (hg2 : Gl X "zip" := by rfl)
    (one : starEach [(.Call (.Name "zip" p2) [e, e2] [] pos2)] X.env = [(false, eval (.Call (.Name "zip" p2) [e, e2] [] pos2) X.env)] := by rfl)
    (hs : starEach [e, e2] X.env = (false, eval e X.env) :: starEach [e2] X.env := by rfl) (hpl : (backTo pos2 (starEach [e2] X.env)).any (·.1) = false := by rfl) :
    PI X (.Tuple elts kk tpos) (.Call (.Name "enumerate" p) [.Call (.Name "zip" p2) [e, e2] [] pos2] [] pos) (vi c (iEnZ sa)) :=
  pi_of (pi_enumZ hg hm hg2 hm2 ha one hs hpl) fun σ H R ⟨F, ρ, I, ds, ρ', e, q⟩ => by
    unfold iEnZ at e
    split at e
    · rename_i xs ys ρ1 e1
      cases e
      refine ⟨F, ρ, I, _, ρ', e1, fun vs H1 F1 x1 I1 r1 => ?_⟩
      obtain ⟨v, v', ev, r, r'⟩ := reps2 r1
      cases r with
      | lst h1 rs =>
        cases r' with
        | lst h2 rs' => exact ⟨_, _, _, _, ev, .of (I1.fh _ _ h1), .of (I1.fh _ _ h2), q _ _ F1 x1 I1 (yields_enumZ h1 rs h2 rs')⟩
    · cases e
end
end VS

set_option Elab.async false
set_option linter.all false
set_option maxRecDepth 100000
set_option maxHeartbeats 4000000
namespace VS
open PySem PySem.Spec PyProof.Rows L2
/-! a global constant; a text walked; the built-ins by name -/
theorem ve_glob {c : Ctx} {X : Cx} {x : Str} {d : Str} {p : Pos} (h : ∃ u, X.mg x = some u ∧ RelV (.str d) u) (hg : Gl X x := by rfl) (hd : (x == ("__debug__" : Str)) = false := by decide) : PE X (.Name x p) (vt c (sK (.str d))) := by
  obtain ⟨u, h1, h2⟩ := h
  exact ve_k (pe_glob hg h1 h2 hd) fun _ => .str d
def chars (x : Str) : List D := x.cps.toList.map fun c => .str ⟨#[c]⟩
def iStr (a : SE) : SI := fun ρ => match a ρ with
  | some (.str x, ρ') => some (chars x, ρ')
  | _ => none
theorem yields_str {G : Gx} {F0 : Hp} (x : Str) : Yields G (Its x) F0 (chars x) := by
  intro F H e1 e2
  refine ⟨fun i d hd => ?_, by show x.cps.size ≤ _; simp [chars]⟩
  unfold chars at hd
  rw [List.getElem?_map, Array.getElem?_toList] at hd
  cases e : x.cps[i]? with
  | none => rw [e] at hd; cases hd
  | some ch =>
    rw [e] at hd; cases hd
    refine ⟨(Array.getElem?_eq_some_iff.mp e).1, fun v H' y => ?_⟩
    obtain ⟨rfl, ch', h1, rfl⟩ := y
    rw [e] at h1; cases h1
    exact ⟨F, .refl e2, .str _⟩
theorem vi_str {c : Ctx} {X : Cx} {tg e : Expr} {a : SE} (h : PE X e (vt c a)) : PI X tg e (vi c (iStr a)) := pi_of (pi_str h) fun σ H R ⟨F, ρ, I, ds, ρ', e, q⟩ => by
  unfold iStr at e
  split at e
  · rename_i x ρ1 e1
    cases e
    refine ⟨F, ρ, I, _, ρ', e1, fun v H1 F1 x1 I1 r1 => ?_⟩
    cases r1
    exact ⟨_, rfl, q _ _ F1 x1 I1 (yields_str _)⟩
  · cases e
/-- so many turns of a while as its number tells -/
def fuelI (j : Nat) : Rho → Nat := fun ρ => match ρ[j]? with
  | some (.val (.int n)) => n.natAbs + 2
  | _ => 0
theorem bt_len : bootBuiltins "len" = some (.builtin "len") := by decide +kernel
theorem bt_abs : bootBuiltins "abs" = some (.builtin "abs") := by decide +kernel
theorem bt_max : bootBuiltins "max" = some (.builtin "max") := by decide +kernel
theorem bt_min : bootBuiltins "min" = some (.builtin "min") := by decide +kernel
theorem bt_sum : bootBuiltins "sum" = some (.builtin "sum") := by decide +kernel
theorem bt_sorted : bootBuiltins "sorted" = some (.builtin "sorted") := by decide +kernel
theorem bt_int : bootBuiltins "int" = some (.type "int") := by decide +kernel
theorem bt_str : bootBuiltins "str" = some (.type "str") := by decide +kernel
theorem bt_list : bootBuiltins "list" = some (.type "list") := by decide +kernel
theorem bt_tuple : bootBuiltins "tuple" = some (.type "tuple") := by decide +kernel
theorem bt_ty0 : bootBuiltins "bool" = some (.type (tyName 0)) := by decide +kernel
theorem bt_ty1 : bootBuiltins "int" = some (.type (tyName 1)) := by decide +kernel
theorem bt_ty2 : bootBuiltins "str" = some (.type (tyName 2)) := by decide +kernel
theorem bt_ty3 : bootBuiltins "list" = some (.type (tyName 3)) := by decide +kernel
theorem bt_ty4 : bootBuiltins "tuple" = some (.type (tyName 4)) := by decide +kernel
end VS

set_option Elab.async false
set_option linter.all false
set_option maxRecDepth 100000
set_option maxHeartbeats 4000000
namespace VS
open PySem PySem.Spec PyProof.Rows L2
/-! x == [], whatever the list x holds -/
def gEqL : G2
  | .lst xs, .lst [] => some (.bl xs.isEmpty)
  | _, _ => none
theorem op_eqLen {X : Cx} (hu : X.A.units + 64 < cLine) : OpR X (compareOp .Eq) (fun x y H Q => ∃ a b xs ys, x = .ref a ∧ y = .ref b ∧ SqL X.K H a xs ∧ SqL X.K H b ys ∧ xs.length ≠ ys.length ∧ Q (.bl false) H) := by
  intro pins s σ H x y v u Q I rx ry h
  obtain ⟨a, b, xs, ys, rfl, rfl, hx, hy, hne, q⟩ := h
  cases rx
  cases ry
  obtain ⟨its, rv, p, _⟩ := I.list hx
  obtain ⟨its2, rv2, p2, _⟩ := I.list hy
  have l1 := rv.length
  have l2 := rv2.length
  refine SeqAt.eq_list_lengthsAt p.isList p2.isList ?_ (by omega) ⟨.bl false, H, I, rfl, q⟩
  simp
  omega
theorem od_eqL {c : Ctx} {X : Cx} (hu : X.A.units + 64 < cLine) : OpD c X (compareOp .Eq) gEqL := opr_of ((op_eqLen hu).or (op_eqD hu)) fun x y H Q ⟨F, a, b, d, e, ra, rb, hg, q⟩ => by
  unfold gEqL at hg
  split at hg
  · rename_i xs
    cases hg
    cases ra with
    | lst h1 r1 =>
      cases rb with
      | lst h2 r2 =>
        cases r2
        cases r1 with
        | nil => exact .inr ⟨.list [], .list [], (Rep.lst (G := c.G) h1 .nil).dp (x := .list []) e rfl, (Rep.lst (G := c.G) h2 .nil).dp (x := .list []) e rfl, by decide, by decide, q.here e (.bl _)⟩
        | cons r r' => exact .inl ⟨_, _, _, _, rfl, rfl, .of (e _ _ h1), .of (e _ _ h2), by simp, q.here e (.bl _)⟩
  · cases hg
end VS

set_option Elab.async false
set_option linter.all false
set_option maxRecDepth 100000
set_option maxHeartbeats 4000000
namespace VS
open PySem PySem.Spec PyProof.Rows L2
/-! a, b, c = (e, [], []): b and c to be changed -/
def kPar3E (i j l : Nat) (e : SE) : SS := fun ρ => match e ρ with
  | some (d, ρ1) => some (.nx, ((ρ1.set i (.val d)).set j (.own [])).set l (.own []))
  | none => none
section
variable {c : Ctx} {X : Cx}
theorem vs_par3E {i j l : Nat} {x y z : Str} {a : Expr} {s : SE} {px py pz pt p1 p2 pos : Pos} {kt k2 pt2} (hc : X.calm = true) (hN : X.N.Nodup) (ha : PE X a (vt c s))
    (hw : swappedStores [.Tuple [.Name x px, .Name y py, .Name z pz] kt pt] (.Tuple [a, .List [] p1, .List [] p2] k2 pt2) X.env = pure (some [x, y, z]))
    (hi : X.N[i]? = some x := by rfl) (hj : X.N[j]? = some y := by rfl) (hl : X.N[l]? = some z := by rfl) (hij : i ≠ j := by decide) (hil : i ≠ l := by decide) (hjl : j ≠ l := by decide)
    (hx : X.env.scope.names.lookup x = some .local := by rfl) (hy : X.env.scope.names.lookup y = some .local := by rfl) (hz : X.env.scope.names.lookup z = some .local := by rfl)
    (h1 : starEach [a, .List [] p1, .List [] p2] X.env = (false, eval a X.env) :: starEach [.List [] p1, .List [] p2] X.env := by rfl)
    (h2 : starEach [.List [] p1, .List [] p2] X.env = (false, eval (.List [] p1) X.env) :: starEach [.List [] p2] X.env := by rfl)
    (h3 : starEach [.List [] p2] X.env = (false, eval (.List [] p2) X.env) :: starEach [] X.env := by rfl)
    (hs : swapsWithSole [.Tuple [.Name x px, .Name y py, .Name z pz] kt pt] (.Tuple [a, .List [] p1, .List [] p2] k2 pt2) pos.line X.env = pure false := by rfl) :
    PS X (.Assign [.Tuple [.Name x px, .Name y py, .Name z pz] kt pt] (.Tuple [a, .List [] p1, .List [] p2] k2 pt2) pos) (vs c (kPar3E i j l s)) :=
  ps_of (ps_par3 hc hN hi hj hl hij hil hjl hx hy hz (pa_cons ha (pa_cons (pe_lst pa_nil) (pa_cons (pe_lst pa_nil) pa_nil h3) h2) h1) hw hs) fun σ H E ⟨F, ρ, I, fl, ρ', e, q⟩ => by
    unfold kPar3E at e
    split at e
    · rename_i d ρ1 e1
      cases e
      refine ⟨F, ρ, I, d, ρ1, e1, fun v H1 F1 x1 I1 r1 => ⟨Nat.zero_le _, fun p hp => ⟨Nat.zero_le _, fun p' hp' => ⟨v, .ref p, .ref p', rfl, ?_⟩⟩⟩⟩
      exact q _ _ _ x1 (((I1.put i r1).fresh hp .nil j).fresh hp' .nil l)
    · cases e
end
end VS

set_option Elab.async false
set_option linter.all false
set_option maxRecDepth 100000
set_option maxHeartbeats 4000000
namespace VS
open PySem PySem.Spec PyProof.Rows L2
/-! x[::-1] of a list or a tuple -/
theorem adjust_rev (n : Nat) : Builtin.Slice.sliceAdjust none none (-1) (n : Int) = ((n : Int) - 1, -1) := rfl
theorem places_rev (n : Nat) : Builtin.Slice.slicePlaces ((n : Int) - 1) (-1) (-1) = n := by
  unfold Builtin.Slice.slicePlaces
  have h0 : ¬ ((-1 : Int) > 0) := by decide
  have h1 : (- -1 : Int) = 1 := by decide
  simp only [h0, if_false, h1, Int.ediv_one]
  split <;> omega
theorem fm_congr {α β : Type} {f g : α → Option β} : ∀ {l : List α}, (∀ x ∈ l, f x = g x) → l.filterMap f = l.filterMap g
  | [], _ => rfl
  | a :: l, h => by
    rw [List.filterMap_cons, List.filterMap_cons, h a List.mem_cons_self, fm_congr fun x hx => h x (List.mem_cons_of_mem _ hx)]
theorem pick_rev (xs : Array Value) : ((List.range xs.size).filterMap fun (k : Nat) => xs[((xs.size : Int) - 1 + (k : Int) * (-1)).toNat]?).toArray = xs.toList.reverse.toArray := by
  have e : ((List.range xs.size).filterMap fun (k : Nat) => xs[((xs.size : Int) - 1 + (k : Int) * (-1)).toNat]?) = (((List.range xs.size).map fun k => xs.size - 1 - k).filterMap (xs[·]?)) := by
    rw [List.filterMap_map]
    have : ∀ k ∈ List.range xs.size, xs[((xs.size : Int) - 1 + (k : Int) * (-1)).toNat]? = ((fun x => xs[x]?) ∘ fun k => xs.size - 1 - k) k := fun k hk => by
      have hk' := List.mem_range.mp hk
      show xs[((xs.size : Int) - 1 + (k : Int) * (-1)).toNat]? = xs[xs.size - 1 - k]?
      rw [show ((xs.size : Int) - 1 + (k : Int) * (-1)).toNat = xs.size - 1 - k by omega]
    exact fm_congr this
  rw [e, PySem.W.krv_range, List.filterMap_reverse, PySem.W.krv_all]
section
variable {prog : Program} {w : World} {A : Around} {E : Value → Shared → Prop} {s : Shared}
theorem sliceApplied_rev {sl : Addr} {vl vu vs : Value} {n : Nat} {Q : Int × Int × Nat → Shared → Prop} (hs : s.heap.IsSliceOf sl vl vu vs) (pl : IsPart vl none) (pu : IsPart vu none) (ps : IsPart vs (some (-1)))
    (h : Q ((n : Int) - 1, -1, n) s) : wpAny (model prog w) A (Builtin.Slice.sliceApplied (.ref sl) (pure (n : Int))) Q E s := by
  obtain ⟨os, hos, hcs, hds⟩ := id hs
  unfold Builtin.Slice.sliceApplied Builtin.Slice.sliceFields
  refine wpAny_bind (wpAny_bind (wpAny_field hos hds (x := vl) rfl (wpAny_bind (wpAny_field hos hds (x := vu) rfl (wpAny_bind (wpAny_field hos hds (x := vs) rfl (wpAny_pure ?_)))))))
  refine wpAny_bind (HT.slicePart_ ps ?_)
  show wpAny _ _ (if ((-1 : Int) == 0) = true then _ else _) _ _ s
  rw [if_neg (by decide)]
  refine wpAny_bind (HT.slicePart_ pl (wpAny_bind (HT.slicePart_ pu (wpAny_bind (wpAny_pure ?_)))))
  show wpAny _ _ (match Builtin.Slice.sliceAdjust none none (-1) (n : Int) with | (lo, hi) => pure (lo, (-1 : Int), Builtin.Slice.slicePlaces lo hi (-1))) _ _ s
  rw [adjust_rev n]
  show wpAny _ _ (pure ((n : Int) - 1, (-1 : Int), Builtin.Slice.slicePlaces ((n : Int) - 1) (-1) (-1))) _ _ s
  rw [places_rev]
  exact wpAny_pure h
theorem getItem_tuple_rev {t sl : Addr} {items : Array Value} {vl vu vs : Value} {Q : Value → Shared → Prop} (ht : IsTup s.heap t items) (hs : s.heap.IsSliceOf sl vl vu vs) (pl : IsPart vl none) (pu : IsPart vu none) (ps : IsPart vs (some (-1)))
    (h : Q (.ref s.heap.objs.size) { s with heap := s.heap.push { cls := .type "tuple", data := .seq items.toList.reverse.toArray } })
    (hsz : items.size ≤ sizeLine) : wpAny (model prog w) A (getItem (.ref t) (.ref sl)) Q E s := by
  have htake : sizeOk (.seq items.toList.reverse.toArray) := by
    show items.toList.reverse.toArray.size ≤ sizeLine
    rw [List.size_toArray, List.length_reverse, Array.length_toList]
    exact hsz
  obtain ⟨os, hos, hcs, hds⟩ := id hs
  have hTs : s.TypeIs (.ref sl) "slice" := ⟨os, hos, hcs⟩
  unfold getItem
  try with_reducible refine wpAny_holding ?_
  first | refine wpAny_bind (wpAny_pure ?_) | skip
  refine wpAny_bind (wpAny_sequenceKey ht.typeIs (by decide) ?_)
  refine wpAny_bind (wpAny_callSpecial?_slot (name := Str.ofString "__getitem__") ht.typeIs PyProof.Rows.slot_tuple_getitem
    (wpAny_call_entry PyProof.Rows.slot_tuple_getitem ht.typeIs PyProof.Rows.entry_tuple_getitem ?_ (PyProof.Rows.args_tuple_getitem _ _)))
  show wpAny _ _ (Builtin.Tuple.tupleItemsOf (.ref t) >>= _) _ _ s
  refine wpAny_bind (PyProof.Rows.tupleItemsOf_ ht ?_)
  refine wpAny_bind (wpAny_typeOf hTs ?_)
  rw [if_pos (by decide)]
  refine wpAny_bind (sliceApplied_rev hs pl pu ps ?_)
  have hno : ¬ ((((items.size : Int) - 1) == 0 && (-1 : Int) == 1 && items.size == items.size) = true) := by
    intro q
    rw [Bool.and_eq_true, Bool.and_eq_true] at q
    have q2 : (-1 : Int) = 1 := eq_of_beq q.1.2
    omega
  show wpAny _ _ (if (((items.size : Int) - 1) == 0 && (-1 : Int) == 1 && items.size == items.size) = true then _ else _) _ _ s
  rw [if_neg hno, pick_rev]
  first
    | exact wpAny_bind (m := Builtin.Tuple.tupleExact _) (wpAny_newObj_type (wpAny_pure ⟨_, rfl, wpAny_pure h⟩) htake)
    | exact wpAny_bind (m := Builtin.Tuple.tupleExact _) (wpAny_newObj_type (wpAny_bind (wpAny_pure (wpAny_pure ⟨_, rfl, wpAny_pure h⟩))) htake)
    | exact wpAny_bind (wpAny_bind (m := Builtin.Tuple.tupleExact _) (wpAny_newObj_type (wpAny_pure (wpAny_pure ⟨_, rfl, wpAny_pure h⟩)) htake))
    | exact wpAny_bind (wpAny_bind (m := Builtin.Tuple.tupleExact _) (wpAny_newObj_type (wpAny_pure ⟨_, rfl, wpAny_pure h⟩) htake))
end
section
variable {X : Cx} {te : TE}
def tRevA (K : PySem.W.Frag) (te : TE) : TE := fun σ H Q => te σ H fun x H1 => (∃ a xs, x = .ref a ∧ SqL K H1 a xs ∧ ∀ p, H1 p = none → Q (.ref p) (upd H1 p (.lst xs.reverse))) ∨ (∃ a xs, x = .ref a ∧ SqT K H1 a xs ∧ ∀ p, H1 p = none → Q (.ref p) (upd H1 p (.tup xs.reverse)))
theorem pe_revA {e : Expr} {k : Nat} {p1 p2 p3 pos : Pos} (he : PE X e te) : PE X (.Subscript e (.Slice none none (some (.UnaryOp .USub (.Constant (.int 1) k p1) p2)) p3) pos) (tRevA X.K te) := by
  refine ⟨fun pins s σ H Q I h => ?_⟩
  refine Subscript_ (thn (he.run pins s σ H _ I h) fun v s1 ⟨x, H1, I1, r1, q1⟩ => ?_)
  have hst : PO X (some (.UnaryOp .USub (.Constant (.int 1) k p1) p2)) (tPart (tUn (rU fun i => .int (-i)) (tC (.int 1)))) := po_some (pe_un un_neg pe_int)
  refine wpAny_Slice (thn (po_none.run pins s1 σ H1 (fun o H2 => o = none ∧ H2 = H1) I1 ⟨rfl, rfl⟩) fun vl s2 ⟨l, H2, I2, pl, el, e2⟩ => ?_)
  subst el e2
  refine thn (po_none.run pins s2 σ H2 (fun o H3 => o = none ∧ H3 = H2) I2 ⟨rfl, rfl⟩) fun vu s3 ⟨u, H3, I3, pu, eu, e3⟩ => ?_
  subst eu e3
  refine thn (hst.run pins s3 σ H3 (fun o H4 => o = some (-1) ∧ H4 = H3) I3 ⟨1, rfl, -1, rfl, rfl, rfl⟩) fun vs s4 ⟨o, H4, I4, ps, eo, e4⟩ => ?_
  subst eo e4
  have I5 : Inv X pins σ H4 { s4 with heap := s4.heap.push { cls := .type "slice", data := .fields #[vl, vu, vs] } } := I4.kept (t' := s4.toks) fun b ob q => Heap.get?_push_of_some _ q
  rcases q1 with ⟨a, xs, ex, hx, q⟩ | ⟨a, xs, ex, hx, q⟩
  · subst ex
    cases r1
    obtain ⟨its, r, ht, hz⟩ := I5.list hx
    have hlen := r.length
    show wpAny (model X.prog X.w) X.A (subscriptTail e (.Slice none none (some (.UnaryOp .USub (.Constant (.int 1) k p1) p2)) p3) (.ref a) (.ref s4.heap.objs.size)) (EP X pins σ Q) X.xe { s4 with heap := s4.heap.push { cls := .type "slice", data := .fields #[vl, vu, vs] } }
    refine tail_any (ops := [.ref a, .ref s4.heap.objs.size]) ht.isList.typeIs (PySem.slot_list_getitem.lookup) ?_ (by with_unfolding_all rfl)
    refine wpAny_getItem_list_slice ht.isList (Heap.IsSliceOf.new _ vl vu vs) pl pu ps (by decide) ?_ (by rw [List.size_toArray]; omega)
    rw [PySem.W.krv_pick]
    refine ⟨.ref _, _, I5.laid (t' := s4.toks) (o := .lst xs.reverse) (fun b ob q => Heap.get?_push_of_some _ q) (Nat.le_refl _) ?_, rfl, q _ (I5.hok.fresh (Nat.le_refl _))⟩
    exact ⟨by rw [List.length_reverse]; exact hz, _, 0, r.reverse, Heap.get?_push_size _ rfl⟩
  · subst ex
    cases r1
    obtain ⟨its, r, ht, hz⟩ := I5.tuple hx
    have hlen := r.length
    show wpAny (model X.prog X.w) X.A (subscriptTail e (.Slice none none (some (.UnaryOp .USub (.Constant (.int 1) k p1) p2)) p3) (.ref a) (.ref s4.heap.objs.size)) (EP X pins σ Q) X.xe { s4 with heap := s4.heap.push { cls := .type "slice", data := .fields #[vl, vu, vs] } }
    refine tail_any (ops := [.ref a, .ref s4.heap.objs.size]) ht.typeIs (PyProof.Rows.slot_tuple_getitem.lookup) ?_ (by with_unfolding_all rfl)
    refine getItem_tuple_rev ht (Heap.IsSliceOf.new _ vl vu vs) pl pu ps ?_ (by rw [List.size_toArray]; omega)
    refine ⟨.ref _, _, I5.laid (t' := s4.toks) (o := .tup xs.reverse) (fun b ob q => Heap.get?_push_of_some _ q) (Nat.le_refl _) ?_, rfl, q _ (I5.hok.fresh (Nat.le_refl _))⟩
    exact ⟨by rw [List.length_reverse]; exact hz, _, r.reverse, IsTup.new _ _⟩
end
theorem Reps.reverse {G : Gx} {F : Hp} : ∀ {vs : List V} {ds : List D}, Reps G F vs ds → Reps G F vs.reverse ds.reverse
  | _, _, .nil => .nil
  | _, _, .cons h r => by
    rw [List.reverse_cons, List.reverse_cons]
    exact (Reps.reverse r).append (.one h)
def gRev : G1
  | .lst xs => some (.lst xs.reverse)
  | .tup xs => some (.tup xs.reverse)
  | _ => none
section
variable {c : Ctx} {X : Cx}
theorem ve_rev {a : Expr} {sa : SE} {k : Nat} {p1 p2 p3 pos : Pos} (ha : PE X a (vt c sa)) : PE X (.Subscript a (.Slice none none (some (.UnaryOp .USub (.Constant (.int 1) k p1) p2)) p3) pos) (vt c (s1 gRev sa)) := by
  refine pe_of (pe_revA ha) fun σ H Q ⟨F, ρ, I, d, ρ', e, q⟩ => ?_
  unfold s1 at e
  split at e
  · rename_i x ρ1 e1
    split at e
    · rename_i d' e4
      cases e
      refine ⟨F, ρ, I, x, ρ', e1, fun v H1 F1 x1 I1 r1 => ?_⟩
      have q' : Aft c.G F1 H1 d Q := fun v H' F' g r => q v H' F' (x1.trans g.f) (I1.grow g) r
      unfold gRev at e4
      split at e4
      · cases e4
        cases r1 with
        | lst h1 rs => exact .inl ⟨_, _, rfl, .of (I1.fh _ _ h1), fun p hp => q'.newL I1.fh rs.reverse p hp⟩
      · cases e4
        cases r1 with
        | tup h1 rs => exact .inr ⟨_, _, rfl, .of (I1.fh _ _ h1), fun p hp => q'.newT I1.fh rs.reverse p hp⟩
      · cases e4
    · cases e
  · cases e
end
end VS

set_option Elab.async false
set_option linter.all false
set_option maxRecDepth 100000
set_option maxHeartbeats 4000000
namespace VS
open PySem PySem.Spec PyProof.Rows L2
/-! a comprehension within a comprehension's block -/
theorem blkOk_in {X : Cx} {N : List Str} {sc scope : Scope} {own : List (Str × Nat)} (h1 : X.N = N) (h2 : X.env.scope = sc) (h : blkC N sc scope own = true) : BlkOk X.N X.env.scope scope own := by
  rw [h1, h2]
  exact blkOk_by h
end VS

set_option Elab.async false
set_option linter.all false
set_option maxRecDepth 100000
set_option maxHeartbeats 4000000
namespace VS
open PySem PySem.Spec PyProof.Rows L2
/-! repr of data; the defs that ask it: no repr is under way around them -/
structure FnG (P : Program) (w : World) (K : PySem.W.Frag) (mg : Str → Option Value) (base : Heap) (k : Nat) (f : Addr) (fd : FuncData) (ps : List Str) (sp : Sp) : Prop where
  len : ∀ vs H Q E, sp vs H Q E → vs.length = ps.length
  run : ∀ (A : Around) (outer : List Env) (s : Shared) (H : Hp) (args : Args) (us : List Value) (vs : List V) (Q : VK) (E : XK), A.guards = some [] → Room k A → Env0 P w K mg base A outer s H → BindsTo s fd args (ps.zip us) → Vals vs us → sp vs H Q E →
    codeAny (model P w) A (.call (.ref f) args) (CR CX0 outer P w H s Q E) s
theorem FnG.imp {P : Program} {w : World} {K : PySem.W.Frag} {mg : Str → Option Value} {base : Heap} {k : Nat} {f : Addr} {fd : FuncData} {ps : List Str} {sp sp' : Sp} (F : FnG P w K mg base k f fd ps sp) (h : ∀ vs H Q E, sp' vs H Q E → sp vs H Q E) : FnG P w K mg base k f fd ps sp' where
  len vs H Q E q := F.len vs H Q E (h _ _ _ _ q)
  run A outer s H args us vs Q E g r e b v q := F.run A outer s H args us vs Q E g r e b v (h _ _ _ _ q)
theorem fnG_of {P : Program} {w : World} {G : Gx} {mg : Str → Option Value} {base : Heap} {x qual : Str} {st : Stmt} {f : Addr} {fd : FuncData} {N ps : List Str} {k : Nat} {sp : Sp} (F : Fun G.K x qual st f fd) (S : FnScope N ps (defScope st)) (len : ∀ vs H Q E, sp vs H Q E → vs.length = ps.length)
    (hb : ∀ (cdv : Value) (A : Around) (outer : List Env) (s : Shared) (H : Hp) (vs : List V) (Q : VK) (E : XK), (A.deeper (envOfC qual (defScope st) s.heap.objs.size f cdv)).guards = some [] → Room k (A.deeper (envOfC qual (defScope st) s.heap.objs.size f cdv)) → sp vs H Q E →
      ∃ t, PSs (cxOf CX0 P w G.K mg base N qual (defScope st) f cdv A outer s H E).nox (defBody st) t ∧ t { nx := fun _ H' => Q .non H', rt := Q } (L2.start N vs) H) : FnG P w G.K mg base (k + 1) f fd ps sp := by
  obtain ⟨oc, od, kV, doc, pm, an, cdv, ct, osl, rfl, lk, hcd⟩ := F.ex
  refine ⟨len, fun A outer s H args us vs Q E hg hr e0 bd r hsp => ?_⟩
  have hl := len _ _ _ _ hsp
  have up : ∀ b o, base.get? b = some o → s.heap.get? b = some o := fun b o e => (e0.bs b o e).1
  have KX : G.K.In s.heap := e0.mod.kin.keeps up
  have kinds : ∀ y ∈ ps.zip us, (defScope st).names.lookup y.1 = some .local ∨ ((defScope st).names.lookup y.1 = some .cell ∧ ((cellsFrom (s.heap.objs.size + 1) (defScope st).names []).lookup y.1).isSome = true) := fun y hy =>
    (S.par y.1 (List.of_mem_zip hy).1).elim .inl fun q => .inr ⟨q, PySem.W.cellsFrom_some _ _ _ (.inl q)⟩
  refine codeAny_call_function hr.depth (KX _ _ lk) rfl S.co S.gen rfl (PySem.W.codeRec_of KX hcd) (bd _ _ _ _ (wpAny_newFunctionEnv_cells S.kind kinds fun env he s1 x => ?_))
  subst he
  refine ⟨(e0.mod.nolimit.keeps up).keeps x.toInCall.keep, codeAny_func ?_⟩
  obtain ⟨t, ht, hq⟩ := hb cdv A outer s H vs Q E hg (hr.deeper _) hsp
  have I : Inv (cxOf CX0 P w G.K mg base N qual (defScope st) f cdv A outer s H E) [] (L2.start N vs) H s1 := inv_start S hr.hd e0 hl r x
  refine wpAny_mono (ht.nox.run [] s1 (L2.start N vs) H _ I hq) (fun fl s' hs => ?_) fun e s' hs => hs
  have fin : ∀ {σ' : L2.St} {H' : Hp} {v : V} {u : Value}, Inv (cxOf CX0 P w G.K mg base N qual (defScope st) f cdv A outer s H E) [] σ' H' s' → RelV v u → Q v H' → CE outer P w H s Q u s' := fun {σ' H' v u} J rv q => ⟨v, H', J.os, J.bare, J.base, J.hok, rv, q⟩
  match fl, hs with
  | .ret u, hs =>
    obtain ⟨v, σ', H', J, rv, q⟩ := hs
    exact fin J rv q
  | .next, hs =>
    obtain ⟨σ', H', J, q⟩ := hs
    exact fin (v := V.non) (u := Value.none) J rfl q
  | .brk, hs => exact hs.elim fun _ z => z.elim fun _ z => z.2.elim
  | .cont, hs => exact hs.elim fun _ z => z.elim fun _ z => z.2.elim
theorem fn_okG {P : Program} {w : World} {G : Gx} {mg : Str → Option Value} {base : Heap} {x qual : Str} {st : Stmt} {f : Addr} {fd : FuncData} {N ps : List Str} {k : Nat} {s : SS} (F : Fun G.K x qual st f fd) (S : FnScope N ps (defScope st))
    (hb : ∀ (c : Ctx) (cdv : Value) (A : Around) (outer : List Env) (sh : Shared) (H : Hp) (E : XK), c.G = G → (A.deeper (envOfC qual (defScope st) sh.heap.objs.size f cdv)).guards = some [] → Room k (A.deeper (envOfC qual (defScope st) sh.heap.objs.size f cdv)) →
      PSs (cxOf CX0 P w G.K mg base N qual (defScope st) f cdv A outer sh H E).nox (defBody st) (vs c s)) :
    FnG P w G.K mg base (k + 1) f fd ps (spV G ps.length (mir N.length s)) := by
  refine fnG_of F S (fun us H Q E h => ?_) (fun cdv A outer sh H us Q E hg hr h => ?_)
  · obtain ⟨F0, B, sl, _, _, a, hn, _⟩ := h
    rw [a.length, hn]
  · obtain ⟨F0, B, sl, e, tb, a, hn, d, o, hm, q⟩ := h
    refine ⟨vs ⟨G, F0, H, B⟩ s, hb _ cdv A outer sh H E rfl hg hr, ?_⟩
    obtain ⟨fl, ρ, h1, h2, h3⟩ := mir_inv hm
    have hl := a.length
    refine ⟨F0, _, (by have := ok_start e tb a (N.length - sl.length); unfold L2.start; rw [hl]; exact this), fl, ρ, h1, ?_⟩
    have fin : ∀ σ H' F', Ok ⟨G, F0, H, B⟩ F' H' σ ρ → Keep G.T B F0 H F' H' ∧ Out G F' H' B sl o := fun σ H' F' I => ok_end e a I h2
    rcases h3 with rfl | ⟨rfl, rfl⟩
    · exact fun v σ H' F' x I r => q v H' F' (fin σ H' F' I).1 (fin σ H' F' I).2 r
    · exact fun σ H' F' x I => q .non H' F' (fin σ H' F' I).1 (fin σ H' F' I).2 .non
structure CalG (P : Program) (w : World) (G : Gx) (mg : Str → Option Value) (base : Heap) (x : Str) (k n : Nat) (m : Mir) : Prop where
  ex : ∃ (f : Addr) (fd : FuncData) (ps : List Str), mg x = some (.ref f) ∧ PySem.W.keepIn G.K (.ref f) = true ∧ Binds G.K fd ps [] ∧ FnG P w G.K mg base k f fd ps (spV G n m)
section
variable {X : Cx} {k : Nat} {f : Addr} {fd : FuncData} {ps : List Str} {sp : Sp} {x : Str} {p pos : Pos} {e : Expr} {es : List Expr} {t : TA}
theorem run_fnG {pins : List (Addr × Obj)} {σ : L2.St} {H : Hp} {s : Shared} {Q : VK} {us : List Value} {vs : List V} (F : FnG X.prog X.w X.K X.mg X.base k f fd ps sp) (hg : X.A.guards = some []) (hr : Room k X.A) (hb : Binds X.K fd ps []) (I : Inv X pins σ H s) (r : Vals vs us) (h : sp vs H Q E0) :
    wpAny (model X.prog X.w) X.A (call (.ref f) us) (EP X pins σ Q) X.xe s := by
  have hl : (us ++ []).length = ps.length := by rw [List.append_nil, ← r.length]; exact F.len _ _ _ _ h
  have b := hb s us I.kIn hl
  rw [List.append_nil] at b
  refine wpAny_call (codeAny_mono (F.run X.A X.stack s H ⟨us, []⟩ us vs Q E0 hg hr I.env0 b r h) fun r s' hq => ?_)
  match r, hq with
  | .error e, hq => exact hq.elim
  | .ok (.ret u), hq => exact I.after hq
  | .ok .next, hq => exact False.elim hq
  | .ok .brk, hq => exact False.elim hq
  | .ok .cont, hq => exact False.elim hq
theorem pe_callG (F : FnG X.prog X.w X.K X.mg X.base k f fd ps sp) (hgd : X.A.guards = some []) (hr : Room k X.A) (hg : Gl X x) (hm : X.mg x = some (.ref f)) (hk : PySem.W.keepIn X.K (.ref f) = true) (hb : Binds X.K fd ps [])
    (ha : PA X (e :: es) t) (hdb : (x == ("__debug__" : Str)) = false := by decide) (he : starEach (e :: es) X.env = (false, eval e X.env) :: starEach es X.env := by rfl) (hpl : (backTo pos (starEach es X.env)).any (·.1) = false := by rfl) :
    PE X (.Call (.Name x p) (e :: es) [] pos) (tCall sp [] E0 t) := by
  refine ⟨fun pins s σ H Q I h => ?_⟩
  refine wpAny_Call_Name_kw (ld_glob I hg hm ?_ hdb)
  refine PySem.W.callWith_K (h₀ := X.base) I.ok.mod.kin hk (thn (ha.run pos pins s σ H _ I h) fun us s1 ⟨vs, H1, I1, r, q⟩ => ⟨I1.kIn, ?_⟩) he hpl
  refine run_fnG F hgd hr hb I1 r ?_
  have q' : sp (vs ++ []) H1 Q E0 := q
  rw [List.append_nil] at q'
  exact q'
end
section
variable {c : Ctx} {X : Cx} {x : Str} {p pos : Pos} {e : Expr} {es : List Expr} {k n : Nat} {m : Mir}
theorem ve_callG {sa : SA} (C : CalG X.prog X.w c.G X.mg X.base x k n m) (hK : X.K = c.G.K) (hgd : X.A.guards = some []) (hr : Room k X.A) (ha : PA X (e :: es) (va c sa)) (hg : Gl X x := by rfl) (hdb : (x == ("__debug__" : Str)) = false := by decide)
    (he : starEach (e :: es) X.env = (false, eval e X.env) :: starEach es X.env := by rfl) (hpl : (backTo pos (starEach es X.env)).any (·.1) = false := by rfl) : PE X (.Call (.Name x p) (e :: es) [] pos) (vt c (sCall n m sa)) := by
  obtain ⟨f, fd, ps, hm, hk, hb, hF⟩ := C.ex
  rw [← hK] at hk hb hF
  exact pe_of (pe_callG hF hgd hr hg hm hk hb ha hdb he hpl) call_w
theorem ve_callMG {sa : SA} {i : Nat} (C : CalG X.prog X.w c.G X.mg X.base x k n m) (hK : X.K = c.G.K) (hgd : X.A.guards = some []) (hr : Room k X.A) (h1 : PE X e (tVar i)) (ha : PA X es (va c sa)) (hg : Gl X x := by rfl) (hdb : (x == ("__debug__" : Str)) = false := by decide)
    (he : starEach (e :: es) X.env = (false, eval e X.env) :: starEach es X.env := by rfl) (hpl : (backTo pos (starEach es X.env)).any (·.1) = false := by rfl) : PE X (.Call (.Name x p) (e :: es) [] pos) (vt c (sCallM n m i sa)) := by
  obtain ⟨f, fd, ps, hm, hk, hb, hF⟩ := C.ex
  rw [← hK] at hk hb hF
  exact pe_of (pe_callG hF hgd hr hg hm hk hb (pa_cons h1 ha he) hdb he hpl) callM_w
/-! repr -/
def gRepr : GL
  | [d] => match toP d with
    | some x => if x.showable = true ∧ x.hasDict = false ∧ x.depth ≤ 50 ∧ x.shown.length ≤ LN then some (.str x.shown) else none
    | none => none
  | _ => none
theorem call_repr (hgd : X.A.guards = some []) (hu : X.A.units + 100 < cLine) : CallR X (.builtin "repr") (fun xs H Q => ∃ v d, xs = [v] ∧ Dp X.K H v d ∧ d.showable = true ∧ d.hasDict = false ∧ d.depth ≤ 50 ∧ d.shown.length ≤ sizeLine ∧ (∀ b, v ≠ .bl b) ∧ v ≠ .non ∧ (∀ y, v ≠ .str y) ∧ Q (.str d.shown) H) := by
  intro pins s σ H xs us Q I r h
  obtain ⟨v, d, rfl, hd, h1, h2, h3, h4, n1, n2, n3, q⟩ := h
  obtain ⟨u, rfl, rx⟩ := vals1 r
  obtain ⟨as, rd⟩ := Dp.reads I d v u hd rx
  cases v with
  | int i =>
    obtain ⟨t, rfl⟩ := rx
    cases hd
    have hz : i.natAbs.log2 < 1920 := of_decide_eq_true h1
    exact PySem.P.repr_of_int hz ⟨.str _, H, I.tok _, ⟨_, rfl⟩, q⟩
  | ref a =>
    cases rx
    exact repr_of_reads' (h₀ := s.heap) rd h1 (fun z => by rw [h2] at z; cases z) hgd (by omega) (fun b o e => e) (fun h' u tk k => ⟨.str d.shown, H, I.kept k, ⟨_, rfl⟩, q⟩) h4
  | bl b => exact absurd rfl (n1 b)
  | non => exact absurd rfl n2
  | str y => exact absurd rfl (n3 y)
  | _ => cases hd
end
end VS

set_option Elab.async false
set_option linter.all false
set_option maxRecDepth 100000
set_option maxHeartbeats 4000000
namespace VS
open PySem PySem.Spec PyProof.Rows L2
/-! a lambda in a slot is called -/
def sAct (i : Nat) (a : SA) : SE := fun ρ => match (ρ[i]? : Option Sl) with
  | some (.lam _) => match a ρ with
    | some ([x, y], ρ1) => match (ρ1[i]? : Option Sl) with
      | some (.lam h) => (h x y).map fun d => (d, ρ1)
      | _ => none
    | _ => none
  | _ => none
/-- a context of the very text that the lambda was made in -/
structure CxG (X : Cx) (G : Gx) : Prop where
  P : X.prog = G.P
  w : X.w = G.w
  K : X.K = G.K
  mg : X.mg = G.mg
  base : X.base = G.base
section
variable {c : Ctx} {X : Cx} {x : Str} {p pos : Pos} {e e2 : Expr} {i : Nat} {sa : SA}
theorem Ok.lamAt {F H : Hp} {σ : L2.St} {ρ : Rho} {h : D → D → Option D} (J : Ok c F H σ ρ) (hi : ρ[i]? = some (.lam h)) : ∃ f, σ[i]? = some (some (V.ref f)) ∧ LamAt c.G F H f h := by
  obtain ⟨ov, h1, h2⟩ := J.sl i _ hi
  cases ov with
  | none => exact h2.elim
  | some v0 =>
    obtain ⟨f, ev, l⟩ := h2
    subst ev
    exact ⟨f, h1, l⟩
theorem LamAt.fn {G : Gx} {F H : Hp} {f : Addr} {h : D → D → Option D} (l : LamAt G F H f h) {pins : List (Addr × Obj)} {σ : L2.St} {s : Shared} (I : Inv X pins σ H s) : PySem.W.FnAt f s.heap := by
  obtain ⟨L, l1, ⟨oc, od, fd, sl, hm⟩, _⟩ := l
  obtain ⟨k1, _, _⟩ := l1 _ hm
  obtain ⟨k2, _⟩ := I.hok _ _ k1
  exact ⟨oc, od, fd, sl, k2⟩
theorem ve_act (cg : CxG X c.G) (hr : Room c.G.kl X.A) (hN : X.N[i]? = some x) (hv : Vis X.env.scope x) (ha : PA X [e, e2] (va c sa))
    (hd : (x == ("__debug__" : Str)) = false := by decide) (hcd : (x == ("__classdict__" : Str)) = false := by decide)
    (he : starEach [e, e2] X.env = (false, eval e X.env) :: starEach [e2] X.env := by rfl) (hpl : (backTo pos (starEach [e2] X.env)).any (·.1) = false := by rfl) :
    PE X (.Call (.Name x p) [e, e2] [] pos) (vt c (sAct i sa)) := by
  refine ⟨fun pins s σ H Q I h => ?_⟩
  obtain ⟨F, ρ, J, d, ρ', hs, q⟩ := h
  unfold sAct at hs
  split at hs
  · rename_i h0 hi
    split at hs
    · rename_i xx yy ρ1 e1
      split at hs
      · rename_i hh hi'
        obtain ⟨f, h1, l1⟩ := J.lamAt hi
        cases hd2 : hh xx yy with
        | none => rw [hd2] at hs; cases hs
        | some d' =>
          rw [hd2] at hs
          cases hs
          refine wpAny_Call_Name_kw (thn ((pe_var (pos := p) hN hv hd hcd).run pins s σ H (fun v H1 => v = .ref f ∧ H1 = H) I ⟨.ref f, h1, rfl, rfl⟩) fun u s1 ⟨v, H1, I1, r1, q1⟩ => ?_)
          obtain ⟨ev, eH⟩ := q1
          subst ev
          rw [eH] at I1
          obtain rfl : u = Value.ref f := r1
          refine PySem.W.callWith_F (first := []) (l1.fn I1) (thn (ha.run pos pins s1 σ H (fun vs H2 => ∃ F2, Ok c F2 H2 σ ρ' ∧ Ext F F2 ∧ Reps c.G F2 vs [xx, yy]) I1 ⟨F, ρ, J, _, ρ', e1, fun vs H' F' x' J' r' => ⟨F', J', x', r'⟩⟩) fun us s2 ⟨vs, H2, I2, r, F2, J2, x2, rr⟩ => ?_) he hpl
          obtain ⟨f', h1', l2⟩ := J2.lamAt hi'
          rw [h1] at h1'
          cases h1'
          refine ⟨l2.fn I2, ?_⟩
          show wpAny _ _ (call (.ref f) us) _ _ _
          cases rr with
          | cons ra rr =>
            cases rr with
            | cons rb rr =>
              cases rr
              cases r with
              | cons va' r =>
                cases r with
                | cons vb' r =>
                  cases r
                  obtain ⟨L, k1, _, k2⟩ := l2
                  have e0 := I2.env0
                  rw [cg.P, cg.w, cg.K, cg.mg, cg.base] at e0
                  have run := k2 X.A X.stack s2 H2 F2 _ _ _ _ _ _ _ e0 hr (fun x hx => ⟨(k1 x hx).1, (k1 x hx).2.1⟩) Ext.rfl' J2.fh J2.tb ra rb va' vb' hd2
                  rw [← cg.P, ← cg.w] at run
                  refine wpAny_call (codeAny_mono run fun r s' hq => ?_)
                  match r, hq with
                  | .error e, hq => exact hq.elim
                  | .ok (.ret u), hq =>
                    refine I2.after (Q := Q) ?_
                    obtain ⟨v, H', z1, z2, z3, z4, z5, F3, z6, z7⟩ := hq
                    exact ⟨v, H', z1, z2, z3, z4, z5, q v H' F3 (x2.trans z6.f) (keep_lift J2 z6) z7⟩
                  | .ok .next, hq => exact False.elim hq
                  | .ok .brk, hq => exact False.elim hq
                  | .ok .cont, hq => exact False.elim hq
      · cases hs
    · cases hs
  · cases hs
end
end VS

set_option Elab.async false
set_option linter.all false
set_option maxRecDepth 100000
set_option maxHeartbeats 4000000
namespace VS
open PySem PySem.Spec PyProof.Rows L2 NdefX
/-! a lambda of two parameters is made, and answers -/
/-- the heap without some addresses -/
def rmA (cs : List Addr) (H : Hp) : Hp := fun b => if b ∈ cs then none else H b
theorem rmA_in {cs : List Addr} {H : Hp} {b : Addr} (h : b ∈ cs) : rmA cs H b = none := if_pos h
theorem rmA_out {cs : List Addr} {H : Hp} {b : Addr} (h : b ∉ cs) : rmA cs H b = H b := if_neg h
theorem rmA_some {cs : List Addr} {H : Hp} {b : Addr} {o : HO} (h : rmA cs H b = some o) : b ∉ cs ∧ H b = some o := by
  by_cases z : b ∈ cs
  · rw [rmA_in z] at h; cases h
  · rw [rmA_out z] at h; exact ⟨z, h⟩
/-- some addresses put back as they stand in another heap -/
def adA (cs : List Addr) (H0 H : Hp) : Hp := fun b => if b ∈ cs then H0 b else H b
theorem adA_in {cs : List Addr} {H0 H : Hp} {b : Addr} (h : b ∈ cs) : adA cs H0 H b = H0 b := if_pos h
theorem adA_out {cs : List Addr} {H0 H : Hp} {b : Addr} (h : b ∉ cs) : adA cs H0 H b = H b := if_neg h
section
variable {P : Program} {w : World} {cs : List Addr} {H H0 H1 : Hp} {h h1 : Heap}
/-- what is known as it is may be forgotten -/
theorem hok_rm (k : HOk P w H h) (f : ∀ b ∈ cs, ∃ ob, H b = some (.frz ob (.own 0))) : HOk P w (rmA cs H) h := fun a o e => by
  obtain ⟨na, e⟩ := rmA_some e
  have st : ∀ b o, H b = some o → (∀ ob, o ≠ .frz ob (.own 0)) → rmA cs H b = some o := fun b o e n => by
    rw [rmA_out fun hb => by obtain ⟨ob, z⟩ := f b hb; rw [e] at z; exact n ob (Option.some.inj z)]
    exact e
  exact (k a o e).stay (fun b u _ g => g) (fun b g => st b _ g fun ob z => by cases z) fun b xs g => st b _ g fun ob z => by cases z
/-- .. and known again -/
theorem hok_ad (k : HOk P w H h) (n : ∀ b ∈ cs, H b = none) (f : ∀ b ∈ cs, ∃ ob, H0 b = some (.frz ob (.own 0)) ∧ h.get? b = some ob) : HOk P w (adA cs H0 H) h := fun a o e => by
  by_cases ha : a ∈ cs
  · obtain ⟨ob, z1, z2⟩ := f a ha
    rw [adA_in ha, z1] at e
    cases e
    exact ⟨z2, ob, z2⟩
  · rw [adA_out ha] at e
    have st : ∀ b o, H b = some o → adA cs H0 H b = some o := fun b o e => by
      rw [adA_out fun hb => by rw [n b hb] at e; cases e]
      exact e
    exact (k a o e).stay (fun b u _ g => g) (fun b g => st b _ g) fun b xs g => st b _ g
end
/-- the lambda's words -/
abbrev lamF (q : Str) (params : Arguments) (scope : Scope) (cl : List (Str × Addr)) (c' : Addr) : NF := ⟨"<lambda>", q, params, [], scope, cl, c'⟩
/-- its frame's values: the two given ones, the captured ones -/
def lamR (n : Nat) (ds : List D) (a b : D) : Rho := [.val a, .val b] ++ (ds.map .val ++ List.replicate (n - 2 - ds.length) .no)
def lamH (n : Nat) (sb : SE) (ds : List D) : D → D → Option D := fun a b => (sb (lamR n ds a b)).map (·.1)
theorem lam_ok {G : Gx} {F H : Hp} {va vb : V} {a b : D} {ds : List D} {vs : List V} {n : Nat} (e : Ext F H) (tb : TbOk G.T F H) (ra : Rep G F va a) (rb : Rep G F vb b) (rs : Reps G F vs ds) :
    Ok ⟨G, F, H, []⟩ F H ([va, vb].map some ++ (vs.map some ++ List.replicate (n - 2 - vs.length) none)) (lamR n ds a b) := by
  have a1 : ArgOk G F H [] (va :: vb :: vs) ((a :: b :: ds).map .val) := .vals (.cons ra (.cons rb rs))
  have k := ok_start e tb a1 (n - 2 - vs.length)
  unfold lamR
  have l := rs.length
  rw [← l]
  exact k
section
variable {G : Gx} {F0 : Hp} {f : Addr} {N : List Str} {p1 p2 : Str} {fr : List Str} {q : Str} {params : Arguments} {body : Expr} {scope : Scope} {cl : List (Str × Addr)} {c' : Addr} {pm ctv : Value} {k : Nat} {sb : SE} {ds : List D} {vs : List V} {hp0 : Heap}
theorem lam_c (S : NScope N [p1, p2] fr scope) (hk : G.kl = k + 1) (hN : N.length = 2 + fr.length)
    (hbind : ∀ us : List Value, us.length = 2 → bindArgs (PySem.W.kla_fn "<lambda>" q params body scope cl pm (.ref c') ctv) ⟨us, []⟩ = pure ([p1, p2].zip us))
    (hbody : ∀ (A : Around) (outer : List Env) (s : Shared) (H F' : Hp) (E : XK), Room k (A.deeper (envF (lamF q params scope cl c') f s.heap.objs.size)) → PE (ncx CX0 G.P G.w G.K G.mg G.base N (lamF q params scope cl c') f A outer s H E) body (vt ⟨G, F', H, []⟩ sb))
    {H0 : Hp} (C : CellsAt cl fr (vs.map some) hp0 H0) (r : Reps G F0 vs ds)
    {L : List (Addr × HO)} (hf : (f, HO.frz (PySem.W.kla_obj "<lambda>" q params body scope cl pm c' ctv) (.own 0)) ∈ L) (hc : (c', LamX.CodeO c' q) ∈ L) (hL : ∀ y a, cl.lookup y = some a → ∃ ob, hp0.get? a = some ob ∧ (a, HO.frz ob (.own 0)) ∈ L) (fc : f ∉ cl.map (·.2)) (cc : c' ∉ cl.map (·.2)) (nd : ∀ a ∈ cl.map (·.2), ∃ y, cl.lookup y = some a) :
    LamC G L F0 f (lamH N.length sb ds) := by
  intro A outer s H F' ua ub va vb a b d e0 hr hLH x1 x2 tb ra rb ea eb hd
  have hr' : Room (k + 1) A := hk ▸ hr
  generalize hcs : cl.map (·.2) = cs at *
  have frz : ∀ b ∈ cs, ∃ ob, hp0.get? b = some ob ∧ H b = some (.frz ob (.own 0)) ∧ F' b = none ∧ s.heap.get? b = some ob := fun b hb => by
    obtain ⟨y, hy⟩ := nd b hb
    obtain ⟨ob, z1, z2⟩ := hL y b hy
    obtain ⟨z3, z4⟩ := hLH _ z2
    exact ⟨ob, z1, z3, z4 ⟨ob, rfl⟩, (e0.hok _ _ z3).1⟩
  have F'rm : Ext F' (rmA cs H) := fun b o e => by
    rw [rmA_out fun hb => by obtain ⟨ob, _, _, z, _⟩ := frz b hb; rw [e] at z; cases z]
    exact x2 b o e
  have ho := (e0.hok _ _ (hLH _ hf).1).1
  have hcr : s.heap.CodeRec (.ref c') q := codeO_at e0.hok (hLH _ hc).1
  have e0' : Env0 G.P G.w G.K G.mg G.base A outer s (rmA cs H) := ⟨e0.frames, e0.mod, fun b o e => ⟨(e0.bs b o e).1, by
    by_cases z : b ∈ cs
    · exact rmA_in z
    · rw [rmA_out z]; exact (e0.bs b o e).2⟩, e0.bsz, e0.funs, fun b hb => by
    by_cases z : b ∈ cs
    · exact rmA_in z
    · rw [rmA_out z]; exact e0.frf b hb, hok_rm e0.hok fun b hb => by obtain ⟨ob, _, z, _⟩ := frz b hb; exact ⟨ob, z⟩, e0.bare⟩
  have inCs : ∀ y c, cl.lookup y = some c → c ∈ cs := fun y c e => by rw [← hcs]; exact List.mem_map.mpr ⟨(y, c), PySem.mem_of_lookup e, rfl⟩
  have cellK : ∀ {c : Addr} {v : Option Value}, c ∈ cs → hp0.IsCell c v → s.heap.IsCell c v := fun {c v} hc ⟨o, ho, hd⟩ => by
    obtain ⟨ob, z1, _, _, z2⟩ := frz c hc
    rw [ho] at z1
    cases z1
    exact ⟨o, z2, hd⟩
  have C' : CellsAt cl fr (vs.map some) s.heap (rmA cs H) := ⟨C.len, fun y c e => ⟨rmA_in (inCs y c e), let ⟨v, z⟩ := (C.all y c e).2; ⟨v, cellK (inCs y c e) z⟩⟩, C.inj, fun i y e => by
    obtain ⟨c, h1, h2⟩ := C.has i y e
    refine ⟨c, h1, fun v hv => ?_⟩
    obtain ⟨u, z1, z2⟩ := h2 v hv
    exact ⟨u, z1, cellK (inCs y c h1) z2⟩⟩
  have lim : s.heap.NoLimit := e0.mod.nolimit.keeps fun b o e => (e0.bs b o e).1
  refine PySem.W.kla_callFunE hr'.depth ho rfl S.co S.gen rfl hcr ?_
  rw [hbind [ua, ub] rfl]
  refine wpAny_pure (wpAny_newFunctionEnv S.nocell (fun ⟨n, _⟩ hy => S.par n (List.of_mem_zip hy).1) (fun h₁ hns hsb => ⟨lim.fresh _ hsb, ?_⟩) S.kind)
  show codeAny _ _ (.expr body (envF (lamF q params scope cl c') f s.heap.objs.size)) _ _
  have kp : ∀ b o, s.heap.get? b = some o → h₁.get? b = some o := fun b o e => hsb.extBut b o (Nat.ne_of_lt (Heap.lt_size e)) (Heap.get?_push_of_some _ e)
  have I : Inv (ncx CX0 G.P G.w G.K G.mg G.base N (lamF q params scope cl c') f A outer s (rmA cs H) E0) [] (startF N [va, vb] (vs.map some)) (rmA cs H) { s with heap := h₁, toks := s.toks + ([p1, p2].zip [ua, ub]).length } :=
    inv_startN (F := lamF q params scope cl c') S hr'.hd e0' rfl (.cons ea (.cons eb .nil)) C' hns kp
  have tb' : TbOk G.T F' (rmA cs H) := ⟨tabs_mod tb.t fun b u e kd => by
    rw [rmA_out fun hb => by
      obtain ⟨ob, _, z, _⟩ := frz b hb
      rw [e] at z
      cases z
      rcases kd with ⟨ps, kd⟩ | ⟨c1, q1, kd⟩
      · cases kd
      · unfold LamX.CodeO at kd; cases kd]
    exact e, tb.n⟩
  have J : Ok ⟨G, F', rmA cs H, []⟩ F' (rmA cs H) (startF N [va, vb] (vs.map some)) (lamR N.length ds a b) := by
    have z := lam_ok (n := N.length) F'rm tb' ra rb (r.ext x1)
    have l : (vs.map some).length = vs.length := List.length_map ..
    unfold startF
    rw [l]
    exact z
  have hd' : ∃ ρ', sb (lamR N.length ds a b) = some (d, ρ') := by
    unfold lamH at hd
    cases z : sb (lamR N.length ds a b) with
    | none => rw [z] at hd; cases hd
    | some r => rw [z] at hd; cases hd; exact ⟨r.2, rfl⟩
  obtain ⟨ρ', hd'⟩ := hd'
  refine PySem.W.kla_codeExpr (wpAny_mono ((hbody A outer s (rmA cs H) F' E0 (hr'.deeper _)).run [] _ _ (rmA cs H) (fun v H' => ∃ F'' σ', Ok ⟨G, F', rmA cs H, []⟩ F'' H' σ' ρ' ∧ Rep G F'' v d) I ⟨F', _, J, d, ρ', hd', fun v H' F'' x' J' r' => ⟨F'', _, J', r'⟩⟩) (fun v s' hq => ?_) fun e s' hq => hq)
  obtain ⟨w', H', I', rv, F'', σ', J', r'⟩ := hq
  have un : Un (frs outer) [] (rmA cs H) H' s.heap s'.heap := I'.base
  have nH' : ∀ b ∈ cs, H' b = none := fun b hb => by
    obtain ⟨ob, _, _, _, z⟩ := frz b hb
    exact un.free b ob z (rmA_in hb) (by simp)
  have kpH : ∀ b ∈ cs, ∃ ob, H b = some (.frz ob (.own 0)) ∧ s'.heap.get? b = some ob := fun b hb => by
    obtain ⟨ob, _, z1, _, z2⟩ := frz b hb
    exact ⟨ob, z1, un.keep b ob z2 (rmA_in hb) (fun hm => by have := e0.frf b hm; rw [z1] at this; cases this) (by simp)⟩
  refine ⟨w', adA cs H H', I'.os, I'.bare, ⟨fun b o e n m x => ?_, fun b o e n m x => ?_, fun b o e n x => ?_, fun b o e x => un.there b o e x, fun b xs e => ?_, fun b o u e => ?_, fun b ps e => ?_⟩, hok_ad I'.hok nH' kpH, rv, F'', ⟨J'.f0, fun b o e => ?_, fun p o e nb nt => ?_, fun p o e => ?_, fun p o e n => ?_, fun _ => ⟨tabs_mod J'.tb.t fun b u e kd => ?_, J'.tb.n⟩⟩, r'⟩
  · have nb : b ∉ cs := fun z => by obtain ⟨ob, _, z1, _⟩ := frz b z; rw [n] at z1; cases z1
    exact un.keep b o e (by rw [rmA_out nb]; exact n) m x
  · have nb : b ∉ cs := fun z => by obtain ⟨ob, _, z1, _⟩ := frz b z; rw [n] at z1; cases z1
    exact un.slot b o e (by rw [rmA_out nb]; exact n) m x
  · have nb : b ∉ cs := fun z => by obtain ⟨ob, _, z1, _⟩ := frz b z; rw [n] at z1; cases z1
    rw [adA_out nb]
    exact un.free b o e (by rw [rmA_out nb]; exact n) x
  · have nb : b ∉ cs := fun z => by obtain ⟨ob, _, z1, _⟩ := frz b z; rw [e] at z1; cases z1
    rw [adA_out nb]
    exact un.tups b xs (by rw [rmA_out nb]; exact e)
  · by_cases nb : b ∈ cs
    · rw [adA_in nb]; exact e
    · rw [adA_out nb]
      exact un.frzs b o u (by rw [rmA_out nb]; exact e)
  · have nb : b ∉ cs := fun z => by obtain ⟨ob, _, z1, _⟩ := frz b z; rw [e] at z1; cases z1
    rw [adA_out nb]
    exact un.tbls b ps (by rw [rmA_out nb]; exact e)
  · rw [adA_out fun hb => by have := J'.fh b o e; rw [nH' b hb] at this; cases this]
    exact J'.fh b o e
  · by_cases hb : p ∈ cs
    · rw [adA_in hb]; exact e
    · rw [adA_out hb]
      exact J'.fr p o (by show rmA cs H p = some o; rw [rmA_out hb]; exact e) (by simp) nt
  · by_cases hb : p ∈ cs
    · exact ⟨o, by rw [adA_in hb]; exact e⟩
    · obtain ⟨o', z⟩ := J'.al p o (by show rmA cs H p = some o; rw [rmA_out hb]; exact e)
      exact ⟨o', by rw [adA_out hb]; exact z⟩
  · by_cases hb : p ∈ cs
    · exact ext_none J'.fh (nH' p hb)
    · exact J'.n0 p o (by show rmA cs H p = some o; rw [rmA_out hb]; exact e) n
  · rw [adA_out fun hb => by rw [nH' b hb] at e; cases e]
    exact e
end
end VS

set_option Elab.async false
set_option linter.all false
set_option maxRecDepth 100000
set_option maxHeartbeats 4000000
namespace VS
open PySem PySem.Spec PyProof.Rows L2 NdefX
section
variable {X : Cx} {pins : List (Addr × Obj)} {σ : L2.St} {H : Hp} {s : Shared}
/-- a lambda is made: where it stands is new -/
theorem lam_made {T : List (Addr × Str)} {c P : Addr} {params : Arguments} {body : Expr} {scope : Scope} {pos : Pos} {E : Value → Shared → Prop} {Q : Value → Shared → Prop} (I : Inv X pins σ H s) (TB : LamX.TabB X.base X.mg c P) (hcode : X.env.code = .ref c)
    (hm : (P, X.env.qual ++ "<lambda>") ∈ T) (hu : ∀ p ∈ T, p.1 = P → p.2 = X.env.qual ++ "<lambda>") (hT : LamX.Tabs T H) (hdef : defaultsOf params X.env = ([], [])) (hfree : ∀ y ∈ scope.names, y.2 = .free → ∃ c, X.env.cells.lookup y.1 = some c)
    (h : ∀ (f c' : Addr) (pm ctv : Value) (H1 : Hp) (s' : Shared), Inv X pins σ H1 s' → (∀ b o, H b = some o → b ≠ P → H1 b = some o) → (∀ b, H1 b = none → H b = none) → (∀ b o, H b = some o → ∃ o', H1 b = some o') → LamX.Tabs T H1 → s.heap.objs.size ≤ f → s'.heap.get? f = some (PySem.W.kla_obj "<lambda>" (X.env.qual ++ "<lambda>") params body scope (cloFrom X.env.cells scope.names []) pm c' ctv) →
      H1 f = none → H1 c' = some (LamX.CodeO c' (X.env.qual ++ "<lambda>")) → Q (.ref f) s') :
    wpAny (model X.prog X.w) X.A (eval (.Lambda params body scope pos) X.env) Q E s := by
  obtain ⟨ps, tP, tOk, tAll⟩ := hT _ hm
  have bm := TB.bm.keeps I.bk
  have cd := TB.code.keeps I.bk
  have gP : s.heap.get? P = some { cls := .none, data := .fields ps } := I.hok P _ tP
  have glob := I.mod.glob.keeps I.bk
  refine PySem.W.kla_eval hdef ?_
  cases found : codeAmong pos ps.toList with
  | some cv =>
    obtain ⟨c', rfl, hco⟩ := tAll pos cv found
    refine PySem.W.kla_makeFunctionHit (mg := X.mg) (c := c) (P := P) (ps := ps) (closure_ok hfree) I.ok.glob glob hcode cd gP tOk found bm fun ctv h' tk grow size => ?_
    have J : Inv X pins σ H { s with heap := h'.push (PySem.W.kla_obj "<lambda>" (X.env.qual ++ "<lambda>") params body scope (cloFrom X.env.cells scope.names []) ((X.mg "__name__").getD .none) c' ctv), toks := tk } := I.kept fun b o e => Heap.get?_push_of_some _ (grow b o e)
    exact h h'.objs.size c' _ ctv H _ J (fun b o e _ => e) (fun b e => e) (fun b o e => ⟨o, e⟩) hT size (Heap.get?_push_size _ rfl) (I.hok.fresh size) hco
  | none =>
    refine PySem.W.kla_makeFunction (mg := X.mg) (c := c) (P := P) (ps := ps) (closure_ok hfree) I.ok.glob glob hcode cd gP tOk found TB.gP bm fun c' ctv h' tk but cge clt rec tab => ?_
    obtain ⟨c2, oc, vs, t, e2, o1, o2, o3⟩ := rec
    cases e2
    have nC : H c' = none := I.hok.fresh cge
    have size : s.heap.objs.size ≤ h'.objs.size := Nat.le_trans cge (Nat.le_of_lt clt)
    have J := LamX.inv_table (t' := tk) (more := #[rawInt pos.line, rawInt pos.col, .ref c']) (q := X.env.qual ++ "<lambda>") (h' := h'.push (PySem.W.kla_obj "<lambda>" (X.env.qual ++ "<lambda>") params body scope (cloFrom X.env.cells scope.names []) ((X.mg "__name__").getD .none) c' ctv)) I tP
      (fun b o hb e => Heap.get?_push_of_some _ (but b o hb e)) (Heap.get?_push_of_some _ tab) cge ⟨oc, vs, t, Heap.get?_push_of_some _ o1, o2, o3⟩
    generalize hH1 : upd (upd H P (.tbl (ps ++ #[rawInt pos.line, rawInt pos.col, .ref c']))) c' (LamX.CodeO c' (X.env.qual ++ "<lambda>")) = H1 at J
    have old : ∀ b o, H b = some o → b ≠ P → H1 b = some o := fun b o e n => by
      rw [← hH1, upd_ne (ne_of_none e nC), upd_ne n]
      exact e
    have PC : P ≠ c' := ne_of_none tP nC
    have atP : H1 P = some (.tbl (ps ++ #[rawInt pos.line, rawInt pos.col, .ref c'])) := by rw [← hH1, upd_ne PC, upd_same]
    have atC : H1 c' = some (LamX.CodeO c' (X.env.qual ++ "<lambda>")) := by rw [← hH1, upd_same]
    have code : ∀ c1 q1, H c1 = some (LamX.CodeO c1 q1) → H1 c1 = some (LamX.CodeO c1 q1) := fun c1 q1 e => old _ _ e fun z => by
      rw [z, tP] at e
      cases e
    refine h h'.objs.size c' _ ctv H1 _ J old (fun b e => ?_) (fun b o e => ?_) (fun p hp => ?_) size (Heap.get?_push_size _ rfl) ?_ atC
    · by_cases z1 : b = c'
      · rw [z1, atC] at e; cases e
      · by_cases z2 : b = P
        · rw [z2, atP] at e; cases e
        · rw [← hH1, upd_ne z1, upd_ne z2] at e; exact e
    · by_cases z2 : b = P
      · exact ⟨_, by rw [z2]; exact atP⟩
      · exact ⟨o, old b o e z2⟩
    · by_cases z : p.1 = P
      · rw [hu p hp z, z]
        have el : (ps ++ #[rawInt pos.line, rawInt pos.col, .ref c']).toList = ps.toList ++ [rawInt pos.line, rawInt pos.col, .ref c'] := by simp
        refine ⟨_, atP, by rw [el]; exact PySem.TriplesOk_snoc _ _ _ _ tOk, fun p' cv hcv => ?_⟩
        rw [el] at hcv
        rcases LamX.among_app _ tOk hcv with y | y
        · obtain ⟨c0, k1, k2⟩ := tAll p' cv y
          exact ⟨c0, k1, code _ _ k2⟩
        · exact ⟨c', y, atC⟩
      · obtain ⟨ps', k1, k2, k3⟩ := hT p hp
        refine ⟨ps', old _ _ k1 z, k2, fun pos cv hc => ?_⟩
        obtain ⟨c0, k4, k5⟩ := k3 pos cv hc
        exact ⟨c0, k4, code _ _ k5⟩
    · have n1 : h'.objs.size ≠ c' := Nat.ne_of_gt clt
      have n2 : h'.objs.size ≠ P := Nat.ne_of_gt (Nat.lt_of_lt_of_le (Heap.lt_size gP) size)
      rw [← hH1, upd_ne n1, upd_ne n2]
      exact I.hok.fresh size
end
/-- the captured names' values -/
def caps (ρ : Rho) : List Nat → Option (List D)
  | [] => some []
  | j :: r => match (ρ[j]? : Option Sl), caps ρ r with
    | some (.val d), some ds => some (d :: ds)
    | _, _ => none
/-- f(e, lambda x, y: body): the mirror of f is asked with what the lambda answers -/
def sCallLam (m : Mir) (a : SE) (js : List Nat) (n : Nat) (sb : SE) : SE := fun ρ => match a ρ with
  | some (d, ρ1) => match caps ρ1 js with
    | some ds => match m [.val d, .lam (lamH n sb ds)] with
      | some (r, _) => some (r, ρ1)
      | none => none
    | none => none
  | none => none
theorem caps_of {c : Ctx} {F H : Hp} {σ : L2.St} {ρ : Rho} (J : Ok c F H σ ρ) : ∀ {js : List Nat} {ds : List D}, caps ρ js = some ds → ∃ vs : List V, js.map (slotAt σ) = vs.map some ∧ Reps c.G F vs ds
  | [], ds, h => by cases h; exact ⟨[], rfl, .nil⟩
  | j :: r, ds, h => by
    unfold caps at h
    split at h
    · rename_i d ds' h1 h2
      cases h
      obtain ⟨vs, k1, k2⟩ := caps_of J h2
      obtain ⟨ov, g1, g2⟩ := J.sl j _ h1
      cases ov with
      | none => exact g2.elim
      | some v => exact ⟨v :: vs, by rw [List.map_cons, List.map_cons, k1, slotAt_of g1], .cons g2 k2⟩
    · cases h
section
variable {c : Ctx} {X : Cx} {x : Str} {e : Expr} {sa sb : SE} {m : Mir} {k n : Nat} {js : List Nat} {N fr : List Str} {p1 p2 : Str} {params : Arguments} {body : Expr} {scope : Scope} {lpos p pos : Pos} {cd P : Addr}
theorem ve_callLam {lv : Nat} (C : Cal X.prog X.w c.G X.mg X.base x lv 2 m) (cg : CxG X c.G) (hkl : c.G.kl = k + 1) (hr : Room lv X.A) (ha : PE X e (vt c sa))
    (TB : LamX.TabB X.base X.mg cd P) (hcode : X.env.code = .ref cd) (hm : (P, X.env.qual ++ "<lambda>") ∈ c.G.T) (hu : ∀ p ∈ c.G.T, p.1 = P → p.2 = X.env.qual ++ "<lambda>")
    (hcells : ∀ y a, X.env.cells.lookup y = some a → X.s_0.heap.objs.size ≤ a)
    (S : NScope N [p1, p2] fr scope) (hN : N.length = n) (hn : n = 2 + fr.length) (hfree : ndefB X.env.scope scope fr = true) (hjs : js.map (fun j => X.N[j]?) = fr.map some) (hdef : defaultsOf params X.env = ([], []))
    (hbind : ∀ (q : Str) (cl : List (Str × Addr)) (c' : Addr) (pm ctv : Value) (us : List Value), us.length = 2 → bindArgs (PySem.W.kla_fn "<lambda>" q params body scope cl pm (.ref c') ctv) ⟨us, []⟩ = pure ([p1, p2].zip us))
    (hbody : ∀ (q : Str) (cl : List (Str × Addr)) (c' f : Addr) (A : Around) (outer : List Env) (s : Shared) (H F' : Hp) (E : XK), Room k (A.deeper (envF (lamF q params scope cl c') f s.heap.objs.size)) → PE (ncx CX0 X.prog X.w X.K X.mg X.base N (lamF q params scope cl c') f A outer s H E) body (vt ⟨c.G, F', H, []⟩ sb))
    (hg : Gl X x := by rfl) (hdb : (x == ("__debug__" : Str)) = false := by decide)
    (he : starEach [e, .Lambda params body scope lpos] X.env = (false, eval e X.env) :: starEach [.Lambda params body scope lpos] X.env := by rfl)
    (he2 : starEach [.Lambda params body scope lpos] X.env = (false, eval (.Lambda params body scope lpos) X.env) :: starEach [] X.env := by rfl)
    (hpl : (backTo pos (starEach [.Lambda params body scope lpos] X.env)).any (·.1) = false := by rfl) :
    PE X (.Call (.Name x p) [e, .Lambda params body scope lpos] [] pos) (vt c (sCallLam m sa js n sb)) := by
  obtain ⟨g, fd, ps, hmg, hkp, hb, hF⟩ := C.ex
  rw [← cg.K] at hkp hb hF
  refine ⟨fun pins s σ H Q I h => ?_⟩
  obtain ⟨F, ρ, J, d, ρ', hs, q⟩ := h
  unfold sCallLam at hs
  split at hs
  · rename_i d0 ρ1 e1
    split at hs
    · rename_i ds e2
      split at hs
      · rename_i r out e3
        cases hs
        refine wpAny_Call_Name_kw (ld_glob I hg hmg ?_ hdb)
        refine PySem.W.callWith_K (h₀ := X.base) I.ok.mod.kin hkp ?_ he hpl
        rw [he]
        show wpAny _ _ (spliced ((false, eval e X.env) :: backTo pos (starEach [.Lambda params body scope lpos] X.env))) _ _ s
        refine Calls.spliced_cons (thn (ha.run pins s σ H (fun v H1 => ∃ F1, Ok c F1 H1 σ ρ' ∧ Ext F F1 ∧ Rep c.G F1 v d0) I ⟨F, ρ, J, d0, ρ', e1, fun v H' F' x' J' r' => ⟨F', J', x', r'⟩⟩) fun u s1 ⟨v1, H1, I1, r1, F1, J1, x1, rd⟩ => ?_)
        rw [he2]
        show wpAny _ _ (spliced ((false, eval (.Lambda params body scope lpos) X.env) :: backTo pos (starEach [] X.env))) _ _ s1
        have hfr : ∀ y ∈ scope.names, y.2 = .free → ∃ c, X.env.cells.lookup y.1 = some c := fun y hy z => (ndef_free hfree y hy z).elim (fun z => I1.ok.has _ (.inl z)) fun z => I1.ok.has _ (.inr z)
        refine Calls.spliced_cons (lam_made I1 TB hcode hm hu J1.tb.t hdef hfr fun f c' pm ctv H2 s2 I2 old back al T2 size ho fn hco => ?_)
        refine Calls.spliced_nil ⟨I2.kIn, ?_⟩
        show wpAny _ _ (call (.ref g) [u, .ref f]) _ _ s2
        have cx : Caps X (cloFrom X.env.cells scope.names []) fr js := Caps.made I2.ok (ndef_free hfree) (ndef_fr hfree) hjs
        have C2 := cells_of I2 cx
        obtain ⟨vs, hvs, rs⟩ := caps_of J1 e2
        rw [hvs] at C2
        generalize hcl : cloFrom X.env.cells scope.names [] = cl at *
        have lk : ∀ y a, cl.lookup y = some a → X.env.cells.lookup y = some a := fun y a z => cx.sub y a z
        have nd : ∀ a ∈ cl.map (·.2), ∃ y, cl.lookup y = some a := fun a hm => by
          obtain ⟨⟨y, a'⟩, h1, h2⟩ := List.mem_map.mp hm
          have h2 : a' = a := h2
          subst h2
          obtain ⟨c1, k1⟩ := mem_lookup h1
          have k2 := lk y c1 k1
          rw [← hcl] at h1
          rcases cloFrom_mem h1 with z | ⟨z1, z2⟩
          · cases z
          · have z3 : a' = c1 := by
              rw [z2, k2] <;> rfl
            exact ⟨y, by rw [z3]; exact k1⟩
        have s0 : X.s_0.heap.objs.size ≤ s1.heap.objs.size := I1.sz
        have fbig : X.s_0.heap.objs.size ≤ f := Nat.le_trans s0 size
        have cbig : ∀ b ∈ f :: cl.map (·.2), X.s_0.heap.objs.size ≤ b := fun b hb => by
          rcases List.mem_cons.mp hb with z | z
          · rw [z]; exact fbig
          · obtain ⟨y, hy⟩ := nd b z
            exact hcells y b (lk y b hy)
        have nH2 : ∀ b ∈ f :: cl.map (·.2), H2 b = none := fun b hb => by
          rcases List.mem_cons.mp hb with z | z
          · rw [z]; exact fn
          · obtain ⟨y, hy⟩ := nd b z
            exact (C2.all y b hy).1
        have there : ∀ b ∈ f :: cl.map (·.2), ∃ ob, s2.heap.get? b = some ob := fun b hb => by
          rcases List.mem_cons.mp hb with z | z
          · rw [z]; exact ⟨_, ho⟩
          · obtain ⟨y, hy⟩ := nd b z
            obtain ⟨v, ob, z1, _⟩ := (C2.all y b hy).2
            exact ⟨ob, z1⟩
        have nF1 : ∀ b ∈ f :: cl.map (·.2), F1 b = none := fun b hb => by
          cases z : F1 b with
          | none => rfl
          | some o =>
            have k := back b (nH2 b hb)
            rw [J1.fh b o z] at k
            cases k
        have nfs : ∀ b ∈ f :: cl.map (·.2), b ∉ frs X.stack := fun b hb hm => by
          have k1 := I2.stkFree
          rcases List.mem_cons.mp (I2.stkSub _ hm) with z | z
          · rcases List.mem_cons.mp hb with y | y
            · have q1 := I1.lt
              rw [← z, y] at q1
              exact Nat.lt_irrefl _ (Nat.lt_of_lt_of_le q1 size)
            · obtain ⟨y', hy⟩ := nd b y
              exact I2.cne y' b (lk y' b hy) z
          · obtain ⟨_, ob, q1, _⟩ := I2.ok.funs.mem z
            exact Nat.lt_irrefl _ (Nat.lt_of_lt_of_le (Heap.lt_size q1) (cbig b hb))
        -- what the callee knows: the lambda and its cells as they are
        generalize hcs : f :: cl.map (·.2) = cs at *
        have fin : f ∈ cs := by rw [← hcs]; exact List.mem_cons_self
        have cin : ∀ y a, cl.lookup y = some a → a ∈ cs := fun y a z => by rw [← hcs]; exact List.mem_cons_of_mem _ (List.mem_map.mpr ⟨(y, a), PySem.mem_of_lookup z, rfl⟩)
        have trkAt : ∀ b ∈ cs, ∃ ob, (fun b => (s2.heap.get? b).map fun ob => HO.frz ob (.own 0)) b = some (.frz ob (.own 0)) ∧ s2.heap.get? b = some ob := fun b hb => by
          obtain ⟨ob, z⟩ := there b hb
          exact ⟨ob, by show (s2.heap.get? b).map _ = _; rw [z]; rfl, z⟩
        generalize hH3 : adA cs (fun b => (s2.heap.get? b).map fun ob => HO.frz ob (.own 0)) H2 = H3
        have H3in : ∀ b ∈ cs, ∃ ob, H3 b = some (.frz ob (.own 0)) ∧ s2.heap.get? b = some ob := fun b hb => by
          obtain ⟨ob, z1, z2⟩ := trkAt b hb
          exact ⟨ob, by rw [← hH3, adA_in hb]; exact z1, z2⟩
        have H3out : ∀ b, b ∉ cs → H3 b = H2 b := fun b hb => by rw [← hH3, adA_out hb]
        have hok3 : HOk X.prog X.w H3 s2.heap := by rw [← hH3]; exact hok_ad I2.hok nH2 trkAt
        have up : ∀ b o, H2 b = some o → H3 b = some o := fun b o z => by rw [H3out b fun hb => by rw [nH2 b hb] at z; cases z]; exact z
        have e2' := I2.env0
        have e3' : Env0 X.prog X.w X.K X.mg X.base X.A X.stack s2 H3 := ⟨e2'.frames, e2'.mod, fun b o z => ⟨(e2'.bs b o z).1, by
          rw [H3out b fun hb => Nat.lt_irrefl _ (Nat.lt_of_lt_of_le (Heap.lt_size z) (Nat.le_trans I2.ok.bsz (cbig b hb)))]
          exact (e2'.bs b o z).2⟩, e2'.bsz, e2'.funs, fun b hb => by
          rw [H3out b fun hc => nfs b hc hb]
          exact e2'.frf b hb, hok3, e2'.bare⟩
        have FH2 : Ext F1 H2 := fun b o z => old b o (J1.fh b o z) fun y => by
          have k := J1.tb.n _ hm
          rw [y] at z
          rw [show F1 P = none from k] at z
          cases z
        have FH3 : Ext F1 H3 := fun b o z => up b o (FH2 b o z)
        have tb3 : TbOk c.G.T F1 H3 := ⟨T2.ext up, J1.tb.n⟩
        have lc : LamC c.G ((f, HO.frz (PySem.W.kla_obj "<lambda>" (X.env.qual ++ "<lambda>") params body scope cl pm c' ctv) (.own 0)) :: (c', LamX.CodeO c' (X.env.qual ++ "<lambda>")) :: cl.filterMap fun y => (s2.heap.get? y.2).map fun ob => (y.2, HO.frz ob (.own 0))) F1 f (lamH n sb ds) := by
          have hb' : ∀ (A : Around) (outer : List Env) (s : Shared) (H F' : Hp) (E : XK), Room k (A.deeper (envF (lamF (X.env.qual ++ "<lambda>") params scope cl c') f s.heap.objs.size)) → PE (ncx CX0 c.G.P c.G.w c.G.K c.G.mg c.G.base N (lamF (X.env.qual ++ "<lambda>") params scope cl c') f A outer s H E) body (vt ⟨c.G, F', H, []⟩ sb) := by
            rw [← cg.P, ← cg.w, ← cg.K, ← cg.mg, ← cg.base]
            exact hbody _ cl c' f
          have q := lam_c (F0 := F1) S hkl (by rw [hN, hn]) (hbind _ cl c' pm ctv) hb' C2 rs (L := (f, HO.frz (PySem.W.kla_obj "<lambda>" (X.env.qual ++ "<lambda>") params body scope cl pm c' ctv) (.own 0)) :: (c', LamX.CodeO c' (X.env.qual ++ "<lambda>")) :: cl.filterMap fun y => (s2.heap.get? y.2).map fun ob => (y.2, HO.frz ob (.own 0)))
            List.mem_cons_self (List.mem_cons_of_mem _ List.mem_cons_self) (fun y a z => by
              obtain ⟨ob, k⟩ := there a (cin y a z)
              exact ⟨ob, k, List.mem_cons_of_mem _ (List.mem_cons_of_mem _ (List.mem_filterMap.mpr ⟨(y, a), PySem.mem_of_lookup z, by rw [k]; rfl⟩))⟩)
            (fun hm => by
              obtain ⟨y, hy⟩ := nd f hm
              exact Nat.lt_irrefl _ (Nat.lt_of_lt_of_le (by
                obtain ⟨v, ob, z1, _⟩ := I1.cell y f (lk y f hy)
                exact Heap.lt_size z1) size))
            (fun hm => by
              obtain ⟨y, hy⟩ := nd c' hm
              rw [(C2.all y c' hy).1] at hco
              cases hco) nd
          rw [hN] at q
          exact q
        have la : LamAt c.G F1 H3 f (lamH n sb ds) := by
          refine ⟨_, fun x hx => ?_, ⟨_, _, _, _, List.mem_cons_self⟩, lc⟩
          rcases List.mem_cons.mp hx with z | hx
          · subst z
            obtain ⟨ob, z1, z2⟩ := H3in f fin
            rw [ho] at z2
            cases z2
            exact ⟨z1, fun _ => nF1 f fin, .inl ⟨_, rfl⟩⟩
          · rcases List.mem_cons.mp hx with z | hx
            · subst z
              exact ⟨up _ _ hco, (fun z => by obtain ⟨ob, z⟩ := z; unfold LamX.CodeO at z; cases z), .inr ⟨_, _, rfl⟩⟩
            · obtain ⟨⟨y, a⟩, h1, h2⟩ := List.mem_filterMap.mp hx
              have ha : a ∈ cs := by rw [← hcs]; exact List.mem_cons_of_mem _ (List.mem_map.mpr ⟨(y, a), h1, rfl⟩)
              obtain ⟨ob, z1, z2⟩ := H3in a ha
              have h2 : (s2.heap.get? a).map (fun ob => (a, HO.frz ob (.own 0))) = some x := h2
              rw [z2] at h2
              cases h2
              exact ⟨z1, fun _ => nF1 a ha, .inl ⟨_, rfl⟩⟩
        have hl : ([u, .ref f] ++ ([] : List Value)).length = ps.length := by
          have := hF.len [v1, .ref f] H3 (fun _ _ => True) E0 ⟨F1, [], _, FH3, tb3, .lam rd la, rfl, d, out, e3, fun _ _ _ _ _ _ => trivial⟩
          exact this
        have b := hb s2 [u, .ref f] I2.kIn hl
        rw [List.append_nil] at b
        refine wpAny_call (codeAny_mono (hF.run X.A X.stack s2 H3 ⟨[u, .ref f], []⟩ [u, .ref f] [v1, .ref f] (fun v H' => ∃ F', Keep c.G.T [] F1 H3 F' H' ∧ Rep c.G F' v d) E0 hr e3' b (.cons r1 (.cons rfl .nil)) ⟨F1, [], _, FH3, tb3, .lam rd la, rfl, d, out, e3, fun v H' F' kp _ rv => ⟨F', kp, rv⟩⟩) fun r' s' hq => ?_)
        match r', hq with
        | .error e, hq => exact hq.elim
        | .ok .next, hq => exact False.elim hq
        | .ok .brk, hq => exact False.elim hq
        | .ok .cont, hq => exact False.elim hq
        | .ok (.ret u'), hq =>
          obtain ⟨v, H', os, bare, un, hok', rv, F', kp, rr⟩ := hq
          have at' : ∀ b ∈ cs, ∃ ob, H' b = some (.frz ob (.own 0)) ∧ s2.heap.get? b = some ob ∧ s'.heap.get? b = some ob := fun b hb => by
            obtain ⟨ob, z1, z2⟩ := H3in b hb
            have z3 := kp.h b _ z1 (by simp) (fun ps z => by cases z)
            exact ⟨ob, z3, z2, (hok' b _ z3).1⟩
          have nF' : ∀ b ∈ cs, F' b = none := fun b hb => by
            obtain ⟨ob, z1, _⟩ := H3in b hb
            exact kp.n b _ z1 (nF1 b hb)
          have kp2 : Keep c.G.T [] F1 H2 F' (rmA cs H') := ⟨kp.f, fun b o z => by
            rw [rmA_out fun hb => by rw [nF' b hb] at z; cases z]
            exact kp.fh b o z, fun p o z nb nt => by
            rw [rmA_out fun hb => by rw [nH2 p hb] at z; cases z]
            exact kp.h p o (up p o z) nb nt, fun p o z => by
            obtain ⟨o', k⟩ := kp.a p o (up p o z)
            exact ⟨o', by rw [rmA_out fun hb => by rw [nH2 p hb] at z; cases z]; exact k⟩, fun p o z n => kp.n p o (up p o z) n, fun tb => by
            have t := kp.t ⟨tb.t.ext up, tb.n⟩
            exact ⟨tabs_mod t.t fun b u z kd => by
              rw [rmA_out fun hb => by
                obtain ⟨ob, k, _⟩ := at' b hb
                rw [z] at k
                cases k
                rcases kd with ⟨ps, kd⟩ | ⟨c1, q1, kd⟩
                · cases kd
                · unfold LamX.CodeO at kd; cases kd]
              exact z, t.n⟩⟩
          have J2 : Ok c F1 H2 σ ρ' := J1.kept (B := []) ⟨Ext.rfl', FH2, fun p o z _ nt => old p o z fun y => by
            obtain ⟨ps, k, _⟩ := J1.tb.t _ hm
            rw [y] at z
            rw [show H1 P = some (.tbl ps) from k] at z
            cases z
            exact nt ps rfl, fun p o z => al p o z, fun p o _ n => n, fun tb => ⟨T2, tb.n⟩⟩ (fun q z => absurd z (by simp)) (fun q z => absurd z (by simp)) fun j s q _ _ _ => by simp
          refine I2.after (Q := Q) ⟨v, rmA cs H', os, bare, ⟨fun b o z n m x => ?_, fun b o z n m x => ?_, fun b o z n x => ?_, fun b o z x => un.there b o z x, fun b xs z => ?_, fun b o u z => ?_, fun b ps z => ?_⟩, hok_rm hok' (fun b hb => by obtain ⟨ob, k, _⟩ := at' b hb; exact ⟨ob, k⟩), rv, q v _ F' (x1.trans kp.f) (keep_lift J2 kp2) rr⟩
          · by_cases hb : b ∈ cs
            · obtain ⟨ob, _, k1, k2⟩ := at' b hb
              rw [z] at k1
              cases k1
              exact k2
            · exact un.keep b o z (by rw [H3out b hb]; exact n) m x
          · have hb : b ∉ cs := fun hb => nfs b hb m
            exact un.slot b o z (by rw [H3out b hb]; exact n) m x
          · by_cases hb : b ∈ cs
            · exact rmA_in hb
            · rw [rmA_out hb]
              exact un.free b o z (by rw [H3out b hb]; exact n) x
          · rw [rmA_out fun hb => by rw [nH2 b hb] at z; cases z]
            exact un.tups b xs (up b _ z)
          · rw [rmA_out fun hb => by rw [nH2 b hb] at z; cases z]
            exact un.frzs b o u (up b _ z)
          · rw [rmA_out fun hb => by rw [nH2 b hb] at z; cases z]
            exact un.tbls b ps (up b _ z)
      · cases hs
    · cases hs
  · cases hs
end
end VS

set_option Elab.async false
set_option linter.all false
set_option maxRecDepth 100000
set_option maxHeartbeats 4000000
namespace VS
open PySem PySem.Spec PyProof.Rows L2
/-! dicts of one's own and as data: {}, d[k] = v, k in d, d[k] -/
mutual
def keyD : D → Option NestedKey
  | .non => some .none
  | .int i => some (.num i)
  | .str x => some (.text x)
  | .tup ds => match keyDs ds with
    | some ks => some (.tup ks)
    | none => none
  | _ => none
def keyDs : List D → Option (List NestedKey)
  | [] => some []
  | d :: ds => match keyD d, keyDs ds with
    | some k, some ks => some (k :: ks)
    | _, _ => none
end
mutual
theorem Rep.key {G : Gx} {F : Hp} : ∀ {v : V} {d : D} {k : NestedKey}, Rep G F v d → keyD d = some k → KV1 F v k
  | _, _, _, .non, h => by unfold keyD at h; cases h; exact .non
  | _, _, _, .bl b, h => by unfold keyD at h; cases h
  | _, _, _, .int i, h => by unfold keyD at h; cases h; exact .int i
  | _, _, _, .str x, h => by unfold keyD at h; cases h; exact .str x
  | _, _, _, .adr a, h => by unfold keyD at h; cases h
  | _, _, _, .lst _ _, h => by unfold keyD at h; cases h
  | _, _, _, .scr _ _, h => by unfold keyD at h; cases h
  | _, _, _, .tup (ds := ds) h1 r, h => by
    unfold keyD at h
    cases e : keyDs ds with
    | none => rw [e] at h; cases h
    | some ks => rw [e] at h; cases h; exact .tup h1 (Reps.keys r e)
  | _, _, _, .ins _ _ _, h => by unfold keyD at h; cases h
  | _, _, _, .dct _ _, h => by unfold keyD at h; cases h
  | _, _, _, .exc _ _ _, h => by unfold keyD at h; cases h
theorem Reps.keys {G : Gx} {F : Hp} : ∀ {vs : List V} {ds : List D} {ks : List NestedKey}, Reps G F vs ds → keyDs ds = some ks → KV1s F vs ks
  | _, _, _, .nil, h => by unfold keyDs at h; cases h; exact .nil
  | _, _, _, .cons (d := d) (ds := ds) h1 r, h => by
    unfold keyDs at h
    cases e1 : keyD d with
    | none => rw [e1] at h; cases h
    | some k =>
      cases e2 : keyDs ds with
      | none => rw [e1, e2] at h; cases h
      | some ks => rw [e1, e2] at h; cases h; exact .cons (Rep.key h1 e1) (Reps.keys r e2)
end
mutual
def kD : NestedKey → D
  | .none => .non
  | .num i => .int i
  | .text x => .str x
  | .tup ks => .tup (kDs ks)
def kDs : List NestedKey → List D
  | [] => []
  | k :: ks => kD k :: kDs ks
end
mutual
theorem KV1.rep {G : Gx} {F : Hp} : ∀ {v : V} {k : NestedKey}, KV1 F v k → Rep G F v (kD k)
  | _, _, .non => .non
  | _, _, .int i => .int i
  | _, _, .str x => .str x
  | _, _, .tup h r => .tup h (KV1s.reps r)
theorem KV1s.reps {G : Gx} {F : Hp} : ∀ {vs : List V} {ks : List NestedKey}, KV1s F vs ks → Reps G F vs (kDs ks)
  | _, _, .nil => .nil
  | _, _, .cons h r => .cons (KV1.rep h) (KV1s.reps r)
end
mutual
theorem KV1.is {P : Program} {w : World} {F H : Hp} {h : Heap} (ok : HOk P w H h) (e : Ext F H) : ∀ {v : V} {k : NestedKey} {u : Value}, KV1 F v k → RelV v u → NestedIs h k u
  | _, _, u, .non, r => by
    obtain rfl : u = Value.none := r
    exact .none
  | _, _, u, .int i, r => by
    obtain ⟨t, rfl⟩ := r
    exact .int i t
  | _, _, u, .str x, r => by
    obtain ⟨t, rfl⟩ := r
    exact .text x t
  | _, _, u, .tup (a := a) (vs := vs) h1 r1, r => by
    obtain rfl : u = Value.ref a := r
    obtain ⟨_, its, rv, o, e1, e2, n, e3⟩ := ok a _ (e _ _ h1)
    exact .tup e1 e2 e3 (by simpa using KV1s.is ok e r1 rv)
theorem KV1s.is {P : Program} {w : World} {F H : Hp} {h : Heap} (ok : HOk P w H h) (e : Ext F H) : ∀ {vs : List V} {ks : List NestedKey} {us : List Value}, KV1s F vs ks → Vals vs us → NestedAll h ks us
  | _, _, _, .nil, r => by cases r; exact .nil
  | _, _, _, .cons h1 r1, r => by
    cases r with
    | cons a b => exact .cons (KV1.is ok e h1 a) (KV1s.is ok e r1 b)
end
/-- the key, where it is of the dict's kind -/
def fitT' : NestedKey → Option NestedKey
  | .tup ks => if (NestedKey.tup ks).depth ≤ 8 then some (.tup ks) else none
  | _ => none
def fitF' : NestedKey → Option NestedKey
  | .num i => some (.num i)
  | .text x => some (.text x)
  | _ => none
def fitB (b : Bool) (d : D) : Option NestedKey := match keyD d with
  | some k => if b = true then fitT' k else fitF' k
  | none => none
theorem fitT {d : D} {k : NestedKey} (h : fitB true d = some k) : ∃ ks, keyD d = some k ∧ k = .tup ks ∧ k.depth ≤ 8 := by
  unfold fitB at h
  cases e : keyD d with
  | none => rw [e] at h; cases h
  | some k0 =>
    rw [e] at h
    simp only [if_true] at h
    cases k0 with
    | tup ks =>
      have h : (if (NestedKey.tup ks).depth ≤ 8 then some (NestedKey.tup ks) else none) = some k := h
      by_cases z : (NestedKey.tup ks).depth ≤ 8
      · rw [if_pos z] at h; cases h; exact ⟨ks, rfl, rfl, z⟩
      · rw [if_neg z] at h; cases h
    | none => cases h
    | num i => cases h
    | text x => cases h
theorem fitF {d : D} {k : NestedKey} (h : fitB false d = some k) : ∃ q : Key, keyD d = some k ∧ k = nkOf q := by
  unfold fitB at h
  cases e : keyD d with
  | none => rw [e] at h; cases h
  | some k0 =>
    rw [e] at h
    simp only [Bool.false_eq_true, if_false] at h
    cases k0 with
    | tup ks => cases h
    | none => cases h
    | num i => cases h; exact ⟨.inl i, rfl, rfl⟩
    | text x => cases h; exact ⟨.inr x, rfl, rfl⟩
theorem KV1.key {F : Hp} {v : V} {q : Key} (h : KV1 F v (nkOf q)) : v = kV q := by
  cases q with
  | inl i => generalize e : nkOf (.inl i) = k at h; cases h <;> cases e; rfl
  | inr x => generalize e : nkOf (.inr x) = k at h; cases h <;> cases e; rfl
theorem KV1.ref {F : Hp} {v : V} {ks : List NestedKey} (h : KV1 F v (.tup ks)) : ∃ a, v = .ref a := by
  cases h with
  | tup h1 r => exact ⟨_, rfl⟩
theorem nkOf_inj {a b : Key} (h : nkOf a = nkOf b) : a = b := by
  cases a <;> cases b <;> simp_all [nkOf]
/-! the table -/
def lkN : List NestedKey → List D → NestedKey → Option D
  | a :: ks, d :: ds, k => if a = k then some d else lkN ks ds k
  | _, _, _ => none
def pkN (ks : List NestedKey) (k : NestedKey) : List NestedKey := if k ∈ ks then ks else ks ++ [k]
def mpN : List NestedKey → List D → NestedKey → D → List D
  | a :: ks, x :: ds, k, d => (if a = k then d else x) :: mpN ks ds k d
  | _, _, _, _ => []
def pvN (ks : List NestedKey) (ds : List D) (k : NestedKey) (d : D) : List D := if k ∈ ks then mpN ks ds k d else ds ++ [d]
theorem atKey_cons {K : Type} [DecidableEq K] (x : K × Addr × Value) (xs : List (K × Addr × Value)) (k : K) : atKey (x :: xs) k = if x.1 = k then some x.2 else atKey xs k := by
  unfold atKey
  rw [List.find?_cons]
  by_cases z : x.1 = k
  · simp [z]
  · simp [z]
theorem mem_atKey {K : Type} [DecidableEq K] : ∀ {xs : List (K × Addr × Value)} {k : K}, (atKey xs k).isSome = true ↔ k ∈ xs.map (·.1)
  | [], k => by simp [atKey]
  | x :: xs, k => by
    rw [atKey_cons, List.map_cons, List.mem_cons]
    by_cases z : x.1 = k
    · rw [if_pos z]; exact ⟨fun _ => .inl z.symm, fun _ => rfl⟩
    · rw [if_neg z, mem_atKey]
      exact ⟨.inr, fun h => h.elim (fun h => absurd h.symm z) id⟩
section
variable {G : Gx} {F : Hp}
theorem lk_raw : ∀ {xs : List DEnt} {vs : List V} {ds : List D} (k : NestedKey), Vals vs (xs.map (·.2.2)) → Reps G F vs ds →
    (∀ d, lkN (xs.map (·.1)) ds k = some d → ∃ p v, atKey xs k = some p ∧ RelV v p.2 ∧ Rep G F v d) ∧ ((lkN (xs.map (·.1)) ds k).isSome = (atKey xs k).isSome)
  | [], vs, ds, k, h, r => ⟨fun d e => by simp [lkN] at e, by simp [lkN, atKey]⟩
  | x :: xs, [], ds, k, h, r => by cases h
  | x :: xs, v :: vs, [], k, h, r => by cases r
  | x :: xs, v :: vs, d0 :: ds, k, h, r => by
    cases h with
    | cons h1 h2 =>
      cases r with
      | cons r1 r2 =>
        obtain ⟨i1, i2⟩ := lk_raw k h2 r2
        refine ⟨fun d e => ?_, ?_⟩
        · rw [List.map_cons] at e
          unfold lkN at e
          rw [atKey_cons]
          by_cases z : x.1 = k
          · rw [if_pos z] at e ⊢; cases e; exact ⟨_, v, rfl, h1, r1⟩
          · rw [if_neg z] at e ⊢; exact i1 d e
        · rw [List.map_cons]
          unfold lkN
          rw [atKey_cons]
          by_cases z : x.1 = k
          · rw [if_pos z, if_pos z]; rfl
          · rw [if_neg z, if_neg z]; exact i2
theorem lk_key : ∀ {kvs : List (Key × V)} {ds : List D} (k : Key), Reps G F (kvs.map (·.2)) ds →
    (∀ d, lkN (kvs.map fun x => nkOf x.1) ds (nkOf k) = some d → ∃ v, valV kvs k = some v ∧ Rep G F v d) ∧ ((lkN (kvs.map fun x => nkOf x.1) ds (nkOf k)).isSome = (valV kvs k).isSome)
  | [], ds, k, r => ⟨fun d e => by simp [lkN] at e, by simp [lkN, valV]⟩
  | x :: xs, [], k, r => by cases r
  | x :: xs, d0 :: ds, k, r => by
    cases r with
    | cons r1 r2 =>
      obtain ⟨i1, i2⟩ := lk_key k r2
      have zz : nkOf x.1 = nkOf k ↔ x.1 = k := ⟨nkOf_inj, fun z => by rw [z]⟩
      refine ⟨fun d e => ?_, ?_⟩
      · rw [List.map_cons] at e
        unfold lkN at e
        by_cases z : x.1 = k
        · rw [if_pos (zz.mpr z)] at e; rw [valV_pos z]; cases e; exact ⟨_, rfl, r1⟩
        · rw [if_neg fun y => z (zz.mp y)] at e; rw [valV_neg z]; exact i1 d e
      · rw [List.map_cons]
        unfold lkN
        by_cases z : x.1 = k
        · rw [if_pos (zz.mpr z), valV_pos z]; rfl
        · rw [if_neg fun y => z (zz.mp y), valV_neg z]; exact i2
theorem mp_raw (k : NestedKey) (u : Value) (v' : V) (d : D) (hv : RelV v' u) (hd : Rep G F v' d) : ∀ {xs : List DEnt} {vs : List V} {ds : List D}, Vals vs (xs.map (·.2.2)) → Reps G F vs ds →
    ∃ vs', Vals vs' ((xs.map (putAt k u)).map (·.2.2)) ∧ Reps G F vs' (mpN (xs.map (·.1)) ds k d)
  | [], vs, ds, h, r => by cases h; cases r; exact ⟨[], .nil, .nil⟩
  | x :: xs, [], ds, h, r => by cases h
  | x :: xs, v :: vs, [], h, r => by cases r
  | x :: xs, v :: vs, d0 :: ds, h, r => by
    cases h with
    | cons h1 h2 =>
      cases r with
      | cons r1 r2 =>
        obtain ⟨vs', i1, i2⟩ := mp_raw k u v' d hv hd h2 r2
        rw [List.map_cons, List.map_cons, List.map_cons]
        unfold mpN
        by_cases z : x.1 = k
        · refine ⟨v' :: vs', .cons (by unfold putAt; rw [if_pos z]; exact hv) i1, ?_⟩
          rw [if_pos z]; exact .cons hd i2
        · refine ⟨v :: vs', .cons (by unfold putAt; rw [if_neg z]; exact h1) i1, ?_⟩
          rw [if_neg z]; exact .cons r1 i2
theorem putAt_keys (k : NestedKey) (u : Value) (xs : List DEnt) : (xs.map (putAt k u)).map (·.1) = xs.map (·.1) := by
  rw [List.map_map]
  refine List.map_congr_left fun x _ => ?_
  show (putAt k u x).1 = x.1
  unfold putAt
  split <;> rfl
theorem vals_snoc : ∀ {vs : List V} {us : List Value} {v : V} {u : Value}, Vals vs us → RelV v u → Vals (vs ++ [v]) (us ++ [u])
  | [], _, v, u, h, r => by cases h; exact .cons r .nil
  | _ :: _, _, v, u, h, r => by
    cases h with
    | cons a b => exact .cons a (vals_snoc b r)
theorem put_raw {k : NestedKey} {a : Addr} {u : Value} {v' : V} {d : D} (hv : RelV v' u) (hd : Rep G F v' d) {xs : List DEnt} {vs : List V} {ds : List D} (h : Vals vs (xs.map (·.2.2))) (r : Reps G F vs ds) :
    (storedH xs k a u).map (·.1) = pkN (xs.map (·.1)) k ∧ ∃ vs', Vals vs' ((storedH xs k a u).map (·.2.2)) ∧ Reps G F vs' (pvN (xs.map (·.1)) ds k d) := by
  unfold storedH pkN pvN
  have m := mem_atKey (xs := xs) (k := k)
  by_cases z : (atKey xs k).isSome = true
  · rw [if_pos z, if_pos (m.mp z), if_pos (m.mp z)]
    exact ⟨putAt_keys k u xs, mp_raw k u v' d hv hd h r⟩
  · rw [if_neg z, if_neg fun q => z (m.mpr q), if_neg fun q => z (m.mpr q)]
    refine ⟨by rw [List.map_append]; rfl, vs ++ [v'], ?_, r.append (.one hd)⟩
    rw [List.map_append]
    exact vals_snoc h hv
theorem mp_key (k : Key) (v' : V) (d : D) (hd : Rep G F v' d) : ∀ {kvs : List (Key × V)} {ds : List D}, Reps G F (kvs.map (·.2)) ds →
    Reps G F ((kvs.map fun kv => if kv.1 = k then (kv.1, v') else kv).map (·.2)) (mpN (kvs.map fun x => nkOf x.1) ds (nkOf k) d)
  | [], ds, r => by cases r; exact .nil
  | x :: xs, [], r => by cases r
  | x :: xs, d0 :: ds, r => by
    cases r with
    | cons r1 r2 =>
      have i := mp_key k v' d hd r2
      have zz : nkOf x.1 = nkOf k ↔ x.1 = k := ⟨nkOf_inj, fun z => by rw [z]⟩
      rw [List.map_cons, List.map_cons, List.map_cons]
      unfold mpN
      by_cases z : x.1 = k
      · rw [if_pos (zz.mpr z), if_pos z]; exact .cons hd i
      · rw [if_neg fun y => z (zz.mp y), if_neg z]; exact .cons r1 i
theorem put_key {k : Key} {v' : V} {d : D} (hd : Rep G F v' d) {kvs : List (Key × V)} {ds : List D} (r : Reps G F (kvs.map (·.2)) ds) :
    (putK kvs k v').map (fun x => nkOf x.1) = pkN (kvs.map fun x => nkOf x.1) (nkOf k) ∧ Reps G F ((putK kvs k v').map (·.2)) (pvN (kvs.map fun x => nkOf x.1) ds (nkOf k) d) := by
  unfold putK pkN pvN
  have m : (kvs.any fun kv => decide (kv.1 = k)) = true ↔ nkOf k ∈ kvs.map fun x => nkOf x.1 := by
    rw [List.any_eq_true, List.mem_map]
    constructor
    · rintro ⟨x, h1, h2⟩; exact ⟨x, h1, by rw [of_decide_eq_true h2]⟩
    · rintro ⟨x, h1, h2⟩; exact ⟨x, h1, decide_eq_true (nkOf_inj h2)⟩
  by_cases z : (kvs.any fun kv => decide (kv.1 = k)) = true
  · rw [if_pos z, if_pos (m.mp z), if_pos (m.mp z)]
    refine ⟨?_, mp_key k v' d hd r⟩
    rw [List.map_map]
    refine List.map_congr_left fun x _ => ?_
    show nkOf (if x.1 = k then (x.1, v') else x).1 = nkOf x.1
    split <;> rfl
  · rw [if_neg z, if_neg fun q => z (m.mpr q), if_neg fun q => z (m.mpr q)]
    exact ⟨by rw [List.map_append]; rfl, by rw [List.map_append]; exact r.append (.one hd)⟩
end
/-! the dict at p, as the library knows it -/
section
variable {X : Cx} {pins : List (Addr × Obj)} {σ : L2.St} {H : Hp} {s : Shared}
theorem raw_at {p : Addr} {l : Option Obj} {xs : List DEnt} (I : Inv X pins σ H s) (h : H p = some (lkO l (rawO X.w p xs))) :
    ∃ (o : Obj) (es : Array DictEntry) (ep : Nat), s.heap.get? p = some o ∧ o.ExactDict ∧ o.data = .dict es ep ∧ (es.toList = xs.map fun x => ({ hash := x.1.hash X.w, key := .ref x.2.1, val := x.2.2 } : DictEntry)) ∧ ∀ od, l = some od → od = o := by
  have k := I.hok p _ h
  cases l with
  | none =>
    obtain ⟨⟨o, es, ep, h1, h2, h3, h4⟩, _⟩ := k
    exact ⟨o, es, ep, h1, h2, h3, h4, fun od z => by cases z⟩
  | some od =>
    obtain ⟨k0, ⟨o, es, ep, h1, h2, h3, h4⟩, _⟩ := k
    rw [k0] at h1
    cases h1
    exact ⟨od, es, ep, k0, h2, h3, h4, fun od z => by cases z; rfl⟩
theorem raw_dict {F : Hp} {p : Addr} {l : Option Obj} {xs : List DEnt} {ks : List NestedKey} {vs : List V} (I : Inv X pins σ H s) (e : Ext F H) (d : DicN X.w l F H p xs ks vs) : s.heap.DictOfH (nestedKind X.prog X.w) p xs := by
  obtain ⟨o, es, ep, h1, h2, h3, h4, _⟩ := raw_at I d.at_
  refine ⟨o, es, ep, h1, h2, h3, h4, fun x hx => ⟨KV1.is I.hok e (d.ky x hx).1 rfl, (d.ky x hx).2⟩, ?_⟩
  have := d.nd
  rw [d.kse] at this
  exact this
theorem rd_lk {l : Option Obj} {u : HO} {p : Addr} (h : H p = some (lkO l u)) : Rd H p u := by
  cases l with
  | none => exact .inl h
  | some od => exact .inr ⟨od, h⟩
def ngB : Bool → Bool → Bool
  | true, b => !b
  | false, b => b
/-- a dict of either form, to be read -/
def rDicR (G : Gx) (F H : Hp) (b : Bool) (p : Addr) (ks : List NestedKey) (ds : List D) : Prop := ∃ l vs, DicAt G.w b l F H p ks vs ∧ Reps G F vs ds
theorem dic_in {G : Gx} {F : Hp} {A : Around} {E : Value → Shared → Prop} {b : Bool} {p : Addr} {ks : List NestedKey} {ds : List D} {x : V} {u : Value} {kd : D} {k : NestedKey} {Q : Value → Shared → Prop} (neg : Bool) (hw : X.w = G.w) (hu : A.units + 16 < cLine) (I : Inv X pins σ H s) (e : Ext F H) (d : rDicR G F H b p ks ds)
    (rx : Rep G F x kd) (hk : fitB b kd = some k) (ru : RelV x u) (h : ∀ s', Inv X pins σ H s' → Q (.bool (ngB neg (lkN ks ds k).isSome)) s') :
    wpAny (model X.prog X.w) A (compareOp (if neg = true then .NotIn else .In) u (.ref p)) Q E s := by
  obtain ⟨l, vs, d, r⟩ := d
  cases b with
  | true =>
    obtain ⟨xs, d⟩ := d
    rw [← hw] at d
    obtain ⟨kk, k1, k2, k3⟩ := fitT hk
    have kv := rx.key k1
    obtain ⟨a, rfl⟩ : ∃ a, x = .ref a := by rw [k2] at kv; exact kv.ref
    obtain rfl : u = Value.ref a := ru
    have dd := raw_dict I e d
    have key : (nestedKind X.prog X.w).is s.heap k a := ⟨KV1.is I.hok e kv rfl, k3⟩
    have rm : (nestedKind X.prog X.w).room A.in1 := by show A.units + 1 + 8 < cLine; omega
    have q := (lk_raw k d.vse r).2
    rw [← d.kse] at q
    cases neg with
    | true => exact wpAny_notIn_heap rm key d.sys dd (by rw [← q]; exact h _ (I.tok _))
    | false => exact wpAny_in_heap rm key d.sys dd (by rw [← q]; exact h _ (I.tok _))
  | false =>
    obtain ⟨kvs, d1, d2, d3, d4⟩ := d
    obtain ⟨q, k1, k2⟩ := fitF hk
    have kv := rx.key k1
    rw [k2] at kv
    have ex := kv.key
    subst ex
    subst d3
    have z := (lk_key q r).2
    have g : DGet H p (kV q) (valV kvs q) := .inl ⟨kvs, q, rd_lk d1, rfl, rfl⟩
    have z' : (valV kvs q).isSome = (lkN ks ds k).isSome := by rw [← z, d2, k2]
    cases neg with
    | true => exact d_notIn (by omega) I g ru fun s' I' => by rw [z']; exact h s' I'
    | false => exact d_in (by omega) I g ru fun s' I' => by rw [z']; exact h s' I'
theorem dic_get {G : Gx} {F : Hp} {A : Around} {E : Value → Shared → Prop} {b : Bool} {p : Addr} {ks : List NestedKey} {ds : List D} {x : V} {u : Value} {kd d0 : D} {k : NestedKey} {Q : Value → Shared → Prop} (hw : X.w = G.w) (hu : A.units + 16 < cLine) (I : Inv X pins σ H s) (e : Ext F H) (d : rDicR G F H b p ks ds)
    (rx : Rep G F x kd) (hk : fitB b kd = some k) (hv : lkN ks ds k = some d0) (ru : RelV x u) (h : ∀ s' v w', Inv X pins σ H s' → RelV v w' → Rep G F v d0 → Q w' s') :
    s.TypeIs (.ref p) "dict" ∧ wpAny (model X.prog X.w) A (getItem (.ref p) u) Q E s := by
  obtain ⟨l, vs, d, r⟩ := d
  cases b with
  | true =>
    obtain ⟨xs, d⟩ := d
    rw [← hw] at d
    obtain ⟨kk, k1, k2, k3⟩ := fitT hk
    have kv := rx.key k1
    obtain ⟨a, rfl⟩ : ∃ a, x = .ref a := by rw [k2] at kv; exact kv.ref
    obtain rfl : u = Value.ref a := ru
    have dd := raw_dict I e d
    have key : (nestedKind X.prog X.w).is s.heap k a := ⟨KV1.is I.hok e kv rfl, k3⟩
    have rm : (nestedKind X.prog X.w).room A.in1 := by show A.units + 1 + 8 < cLine; omega
    obtain ⟨pp, v, q1, q2, q3⟩ := (lk_raw k d.vse r).1 d0 (by rw [← d.kse]; exact hv)
    exact ⟨dd.typeIs, wpAny_getItem_heap rm key dd q1 (h _ v _ (I.tok _) q2 q3)⟩
  | false =>
    obtain ⟨kvs, d1, d2, d3, d4⟩ := d
    obtain ⟨q, k1, k2⟩ := fitF hk
    have kv := rx.key k1
    rw [k2] at kv
    have ex := kv.key
    subst ex
    subst d3
    obtain ⟨v, z1, z2⟩ := (lk_key q r).1 d0 (by rw [← d2, ← k2]; exact hv)
    have g : DGet H p (kV q) (some v) := .inl ⟨kvs, q, rd_lk d1, rfl, z1.symm⟩
    exact ⟨dict_typeIs I g, d_getItem (by omega) I g ru fun w' s' I' rw' => h s' v w' I' rw' z2⟩
end
end VS

set_option Elab.async false
set_option linter.all false
set_option maxRecDepth 100000
set_option maxHeartbeats 4000000
namespace VS
open PySem PySem.Spec PyProof.Rows L2
/-! {}, d[k] = v, k in d, d[k] by slots and by data -/
section
variable {c : Ctx} {X : Cx}
theorem Ok.ownD {F H : Hp} {σ : L2.St} {ρ : Rho} (I : Ok c F H σ ρ) {i : Nat} {b : Bool} {ks : List NestedKey} {ds : List D} (h : ρ[i]? = some (.dic b ks ds)) :
    ∃ p vs, σ[i]? = some (some (V.ref p)) ∧ c.H0 p = none ∧ F p = none ∧ DicAt c.G.w b none F H p ks vs ∧ Reps c.G F vs ds := by
  obtain ⟨ov, h1, h2⟩ := I.sl i _ h
  cases ov with
  | none => exact h2.elim
  | some v =>
    obtain ⟨p, e, h0, hf, vs, hd, r⟩ := h2
    subst e
    exact ⟨p, vs, h1, h0, hf, hd, r⟩
/-- {} of tuple keys -/
def tDNewR (w : World) : TE := fun _ H Q => ∀ p, H p = none → (p == sysModules) = false → Q (.ref p) (upd H p (rawO w p []))
theorem raw_ok {H : Hp} {h : Heap} {p : Addr} {xs : List DEnt} {o : Obj} {es : Array DictEntry} {ep : Nat} (h1 : h.get? p = some o) (h2 : o.ExactDict) (h3 : o.data = .dict es ep) (h4 : es.toList = xs.map fun x => ({ hash := x.1.hash X.w, key := .ref x.2.1, val := x.2.2 } : DictEntry)) :
    ObjOk X.prog X.w H h p (rawO X.w p xs) :=
  ⟨⟨o, es, ep, h1, h2, h3, h4⟩, ⟨o, h1⟩, fun g1 g2 ⟨o', es', ep', k1, k2, k3, k4⟩ st => ⟨o', es', ep', st o' k1, k2, k3, k4⟩⟩
theorem pe_dnewR {pos : Pos} : PE X (.Dict [] [] pos) (tDNewR X.w) := ⟨fun pins s σ H Q I h =>
  wpAny_Dict_empty ⟨.ref s.heap.objs.size, _, I.laid (a := s.heap.objs.size) (o := rawO X.w s.heap.objs.size []) (t' := s.toks) (fun _ _ q => Heap.get?_push_of_some _ q) (Nat.le_refl _)
    (raw_ok (Heap.get?_push_size _ rfl) ⟨rfl, rfl, rfl⟩ rfl rfl), rfl, h _ (I.hok.fresh (Nat.le_refl _)) (beq_eq_false_iff_ne.mpr (Ne.symm (Nat.ne_of_lt I.big)))⟩⟩
/-- name = {} -/
def kDNew (i : Nat) (b : Bool) : SS := fun ρ => some (.nx, ρ.set i (.dic b [] []))
theorem vs_dnew {i : Nat} {x : Str} {p1 pos pos' : Pos} (b : Bool) (hw : X.w = c.G.w) (hN : X.N.Nodup) (hi : X.N[i]? = some x := by rfl) (hx : Loc X.env.scope x := by first | exact .inl rfl | exact .inr rfl)
    (hs : swapsWithSole [.Name x pos'] (.Dict [] [] p1) pos.line X.env = pure false := by rfl) (hf : X.fn x = true ∨ X.env.scope.names.lookup x = some .local := by first | exact .inl rfl | exact .inr rfl) :
    PS X (.Assign [.Name x pos'] (.Dict [] [] p1) pos) (vs c (kDNew i b)) := by
  cases b with
  | true =>
    refine ps_of (ps_set hN hi hx pe_dnewR hs hf) fun σ H E ⟨F, ρ, I, fl, ρ', e, q⟩ => ?_
    cases e
    intro p hp hsys
    refine q _ _ F Ext.rfl' (I.freshS hp i fun h0 hF => ⟨p, rfl, h0, hF, [], ⟨[], by rw [← hw]; exact upd_same, hsys, rfl, List.nodup_nil, .nil, fun x hx => absurd hx (by simp), Nat.zero_le _⟩, .nil⟩)
  | false =>
    refine ps_of (ps_set hN hi hx pe_dnewK hs hf) fun σ H E ⟨F, ρ, I, fl, ρ', e, q⟩ => ?_
    cases e
    intro p hp
    refine q _ _ F Ext.rfl' (I.freshS hp i fun h0 hF => ⟨p, rfl, h0, hF, [], ⟨[], upd_same, rfl, rfl, Nat.zero_le _⟩, .nil⟩)
/-! d[k] = v -/
theorem mem_stored {xs : List DEnt} {k : NestedKey} {a : Addr} {u : Value} {x : DEnt} (h : x ∈ storedH xs k a u) : (∃ y ∈ xs, x.1 = y.1 ∧ x.2.1 = y.2.1) ∨ (x.1 = k ∧ x.2.1 = a) := by
  unfold storedH at h
  split at h
  · obtain ⟨y, h1, h2⟩ := List.mem_map.mp h
    refine .inl ⟨y, h1, ?_⟩
    subst h2
    unfold putAt
    split <;> exact ⟨rfl, rfl⟩
  · rcases List.mem_append.mp h with h | h
    · exact .inl ⟨x, h, rfl, rfl⟩
    · rw [List.mem_singleton] at h; subst h; exact .inr ⟨rfl, rfl⟩
theorem len_stored {xs : List DEnt} {k : NestedKey} {a : Addr} {u : Value} : (storedH xs k a u).length ≤ xs.length + 1 := by
  unfold storedH
  split
  · rw [List.length_map]; omega
  · rw [List.length_append]; exact Nat.le_refl _
def rSetB (G : Gx) : TSet := fun o i v H Q => ∃ F b p ks vs ds kd d key, o = .ref p ∧ Ext F H ∧ DicAt G.w b none F H p ks vs ∧ Reps G F vs ds ∧ Rep G F i kd ∧ fitB b kd = some key ∧ Rep G F v d ∧ ks.length < LN ∧
  ∀ u vs', dicU G.w p u → DicAt G.w b none F (upd H p u) p (pkN ks key) vs' → Reps G F vs' (pvN ks ds key d) → Q (upd H p u)
theorem set_dicB {G : Gx} (hw : X.w = G.w) (hu : X.A.units + 16 < cLine) : PSet X (rSetB G) := by
  intro pins s σ H o i v ov iv u Q I ro ri rv ⟨F, b, p, ks, vs, ds, kd, d, key, eo, e, da, rs, rk, hk, rd, hl, q⟩
  subst eo
  obtain rfl : ov = Value.ref p := ro
  cases b with
  | true =>
    obtain ⟨xs, da⟩ := da
    rw [← hw] at da
    obtain ⟨kk, k1, k2, k3⟩ := fitT hk
    have kv := rk.key k1
    obtain ⟨a, rfl⟩ : ∃ a, i = .ref a := by rw [k2] at kv; exact kv.ref
    obtain rfl : iv = Value.ref a := ri
    have dd := raw_dict I e da
    have ik : (nestedKind X.prog X.w).is s.heap key a := ⟨KV1.is I.hok e kv rfl, k3⟩
    have rm : (nestedKind X.prog X.w).room X.A.in1 := by show X.A.units + 1 + 8 < cLine; omega
    obtain ⟨z1, vs', z2, z3⟩ := put_raw (k := key) (a := a) rv rd da.vse rs
    rw [← da.kse] at z1 z3
    have xl : xs.length < LN := by have := da.kse; rw [this, List.length_map] at hl; exact hl
    refine wpAny_setItem_heap rm ik dd (fun h' dd' hs => ?_) (Nat.le_trans (Nat.le_of_lt xl) (ln_fit (Nat.le_refl _)))
    obtain ⟨o', es, ep, g1, g2, g3, g4, g5, g6⟩ := dd'
    refine ⟨_, d_write (ob := rawO X.w p (storedH xs key a u)) I (by rw [da.at_]; exact True.intro) hs ⟨o', g1⟩ (raw_ok g1 g2 g3 g4), ?_⟩
    refine q _ vs' (.inr ⟨_, by rw [hw]⟩) ⟨storedH xs key a u, by rw [← hw]; exact upd_same, da.sys, z1.symm, by rw [← z1]; exact g6, z2, fun x hx => ?_, Nat.le_trans len_stored xl⟩ z3
    rcases mem_stored hx with ⟨y, y1, y2, y3⟩ | ⟨y2, y3⟩
    · rw [y2, y3]; exact da.ky y y1
    · rw [y2, y3]; exact ⟨kv, k3⟩
  | false =>
    obtain ⟨kvs, d1, d2, d3, d4⟩ := da
    obtain ⟨qk, k1, k2⟩ := fitF hk
    have kv := rk.key k1
    rw [k2] at kv
    have ex := kv.key
    subst ex
    subst d3
    have kl : kvs.length < LN := by rw [d2, List.length_map] at hl; exact hl
    have dl : H p = some (.dK kvs) := d1
    obtain ⟨z1, z2⟩ := put_key (k := qk) rd rs
    refine d_setItem (H' := upd H p (.dK (putK kvs qk v))) (by omega) I (.inl ⟨kvs, qk, dl, rfl, Nat.lt_of_lt_of_le kl (ln_fit (Nat.le_refl _)), rfl⟩) ri rv fun s' I' => ⟨_, I', ?_⟩
    refine q _ ((putK kvs qk v).map (·.2)) (.inl ⟨_, rfl⟩) ⟨putK kvs qk v, upd_same, ?_, rfl, Nat.le_trans (length_putK kvs qk v) kl⟩ ?_
    · rw [z1, d2, k2]
    · rw [d2, k2]; exact z2
def kDPut (i : Nat) (k e : SE) : SS := fun ρ => match e ρ with
  | some (d, ρ1) => match (ρ1[i]? : Option Sl) with
    | some (.dic _ _ _) => match k ρ1 with
      | some (kd, ρ2) => match (ρ2[i]? : Option Sl) with
        | some (.dic b ks ds) => match fitB b kd with
          | some key => if ks.length < LN then some (.nx, ρ2.set i (.dic b (pkN ks key) (pvN ks ds key d))) else none
          | none => none
        | _ => none
      | none => none
    | _ => none
  | none => none
theorem vs_dput {i : Nat} {x : Str} {k e : Expr} {sk s : SE} {p0 tpos pos : Pos} (hw : X.w = c.G.w) (hu : X.A.units + 16 < cLine) (h : PE X (.Name x p0) (tVar i)) (hk : PE X k (vt c sk)) (he : PE X e (vt c s))
    (ha : ∀ v, assign (.Subscript (.Name x p0) k tpos) X.env v = (do
      let ov ← holding [v] (eval (.Name x p0) X.env)
      let iv ← holding [v, ov] (eval k X.env)
      standAt tpos
      holding [v, ov, iv] (setItem ov iv v)
      release [v, ov, iv] []) := by intro _; rfl)
    (hs : swapsWithSole [.Subscript (.Name x p0) k tpos] e pos.line X.env = pure false := by rfl) (hq : swappedStores [.Subscript (.Name x p0) k tpos] e X.env = pure none := by rfl)
    (h1 : (assignEach [.Subscript (.Name x p0) k tpos] X.env).map (·.2) = [assign (.Subscript (.Name x p0) k tpos) X.env] := by rfl) :
    PS X (.Assign [.Subscript (.Name x p0) k tpos] e pos) (vs c (kDPut i sk s)) :=
  ps_of (ps_asg he (pg_sub h hk (set_dicB hw hu) ha) hs hq h1) fun σ H E ⟨F, ρ, I, fl, ρ', e0, q⟩ => by
    unfold kDPut at e0
    split at e0
    · rename_i d ρ1 e1
      split at e0
      · rename_i b0 ks0 ds0 e2
        split at e0
        · rename_i kd ρ2 e3
          split at e0
          · rename_i b ks ds e4
            split at e0
            · rename_i key e5
              split at e0
              · rename_i hl
                cases e0
                refine ⟨F, ρ, I, d, ρ1, e1, fun v H1 F1 x1 I1 r1 => ?_⟩
                obtain ⟨p, _, g1, _⟩ := I1.ownD e2
                refine ⟨_, g1, F1, ρ1, I1, kd, ρ2, e3, fun w H2 F2 x2 I2 r2 => ?_⟩
                obtain ⟨p', vs, k1, k2, k3, k4, k5⟩ := I2.ownD e4
                rw [g1] at k1
                cases k1
                refine ⟨F2, b, p, ks, vs, ds, kd, d, key, rfl, I2.fh, k4, k5, r2, e5, r1.ext x2, hl, fun u vs' du da' rs' => ?_⟩
                obtain ⟨u0, hh, du0, _⟩ := k4.u
                exact q _ _ F2 (x1.trans x2) (I2.chg e4 rfl g1 k2 hh (du0.nl none) k3 ⟨tabs_upd I2.tb.t hh du0.nt du0.nc, I2.tb.n⟩ ⟨p, rfl, k2, k3, vs', da', rs'⟩)
              · cases e0
            · cases e0
          · cases e0
        · cases e0
      · cases e0
    · cases e0
/-! k in d -/
def rInX (G : Gx) (neg : Bool) : R2 := fun x y H Q => ∃ F b p ks ds kd key, y = .ref p ∧ Ext F H ∧ rDicR G F H b p ks ds ∧ Rep G F x kd ∧ fitB b kd = some key ∧ Q (.bl (ngB neg (lkN ks ds key).isSome)) H
theorem op_inX {G : Gx} (neg : Bool) (hw : X.w = G.w) (hu : X.A.units + 16 < cLine) : OpR X (compareOp (if neg = true then .NotIn else .In)) (rInX G neg) := by
  intro pins s σ H x y v u Q I rx ry ⟨F, b, p, ks, ds, kd, key, ey, e, d, rk, hk, q⟩
  subst ey
  obtain rfl : u = Value.ref p := ry
  exact dic_in neg hw hu I e d rk hk rx fun s' I' => ⟨.bl _, H, I', rfl, q⟩
def gInD (neg : Bool) : G2
  | a, .dct b ks ds => (fitB b a).map fun k => .bl (ngB neg (lkN ks ds k).isSome)
  | _, _ => none
theorem dct_at {F H : Hp} {v : V} {b : Bool} {ks : List NestedKey} {ds : List D} (e : Ext F H) (r : Rep c.G F v (.dct b ks ds)) : ∃ p, v = .ref p ∧ rDicR c.G F H b p ks ds := by
  generalize z : D.dct b ks ds = d at r
  cases r with
  | dct h1 rs => cases z; exact ⟨_, rfl, _, _, h1.ext Ext.rfl' (fun o k => e _ o k), rs⟩
  | _ => cases z
theorem od_inD (hw : X.w = c.G.w) (hu : X.A.units + 16 < cLine) : OpD c X (compareOp .In) (gInD false) :=
  opr_of (op_inX false hw hu) fun x y H Q ⟨F, a, b, d, e, ra, rb, hg, q⟩ => by
    unfold gInD at hg
    split at hg
    · cases z : fitB _ a with
      | none => rw [z] at hg; cases hg
      | some k =>
        rw [z] at hg
        cases hg
        obtain ⟨p, ev, rr⟩ := dct_at e rb
        exact ⟨F, _, p, _, _, a, k, ev, e, rr, ra, z, q.here e (.bl _)⟩
    · cases hg
theorem od_notinD (hw : X.w = c.G.w) (hu : X.A.units + 16 < cLine) : OpD c X (compareOp .NotIn) (gInD true) :=
  opr_of (op_inX true hw hu) fun x y H Q ⟨F, a, b, d, e, ra, rb, hg, q⟩ => by
    unfold gInD at hg
    split at hg
    · cases z : fitB _ a with
      | none => rw [z] at hg; cases hg
      | some k =>
        rw [z] at hg
        cases hg
        obtain ⟨p, ev, rr⟩ := dct_at e rb
        exact ⟨F, _, p, _, _, a, k, ev, e, rr, ra, z, q.here e (.bl _)⟩
    · cases hg
/-- the dict one's own -/
def sInD (neg : Bool) (i : Nat) (a : SE) : SE := fun ρ => match a ρ with
  | some (x, ρ1) => match (ρ1[i]? : Option Sl) with
    | some (.dic b ks ds) => (fitB b x).map fun k => (.bl (ngB neg (lkN ks ds k).isSome), ρ1)
    | _ => none
  | none => none
theorem inD_w {neg : Bool} {i : Nat} {sa : SE} (σ : L2.St) (H : Hp) (Q : VK) (h : vt c (sInD neg i sa) σ H Q) : tOp (rInX c.G neg) (vt c sa) (tVar i) σ H Q := by
  obtain ⟨F, ρ, I, d, ρ', e, q⟩ := h
  unfold sInD at e
  split at e
  · rename_i x ρ1 e1
    split at e
    · rename_i b ks ds e2
      cases z : fitB b x with
      | none => rw [z] at e; cases e
      | some k =>
        rw [z] at e
        cases e
        refine ⟨F, ρ, I, x, ρ', e1, fun u H1 F1 x1 I1 r1 => ?_⟩
        obtain ⟨p, vs, g1, g2, g3, g4, g5⟩ := I1.ownD e2
        exact ⟨_, g1, F1, b, p, ks, ds, x, k, rfl, I1.fh, ⟨none, vs, g4, g5⟩, r1, z, q _ H1 F1 x1 I1 (.bl _)⟩
    · cases e
  · cases e
theorem vt_inD {a b : Expr} {i : Nat} {sa : SE} {pos} (hw : X.w = c.G.w) (hu : X.A.units + 16 < cLine) (ha : PE X a (vt c sa)) (hb : PE X b (tVar i)) (hm : behindInMarks .In b = false := by first | exact nomark _ | rfl) : PT X (.Compare a [.In] [b] pos) (vb c (sB (sInD false i sa))) :=
  pt_of (pt_cmpR (op_inX false hw hu) ha hb hm) fun _ _ _ h => vb_test (fun _ => inD_w _ _ _) h
theorem vt_notinD {a b : Expr} {i : Nat} {sa : SE} {pos} (hw : X.w = c.G.w) (hu : X.A.units + 16 < cLine) (ha : PE X a (vt c sa)) (hb : PE X b (tVar i)) (hm : behindInMarks .NotIn b = false := by first | exact nomark _ | rfl) : PT X (.Compare a [.NotIn] [b] pos) (vb c (sB (sInD true i sa))) :=
  pt_of (pt_cmpR (op_inX true hw hu) ha hb hm) fun _ _ _ h => vb_test (fun _ => inD_w _ _ _) h
/-! d[k] -/
def rIxX (G : Gx) : R2 := fun x y H Q => ∃ F b p ks ds kd key d, x = .ref p ∧ Ext F H ∧ rDicR G F H b p ks ds ∧ Rep G F y kd ∧ fitB b kd = some key ∧ lkN ks ds key = some d ∧ ∀ v, Rep G F v d → Q v H
theorem ix_X {G : Gx} (hw : X.w = G.w) (hu : X.A.units + 16 < cLine) : IxR X (rIxX G) := by
  intro value slice pins s σ H x y v u Q I rx ry ⟨F, b, p, ks, ds, kd, key, d, ex, e, dd, rk, hk, hl, q⟩ hs
  subst ex
  obtain rfl : v = Value.ref p := rx
  have z := dic_get (A := X.A) (E := X.xe) (Q := EP X pins σ Q) hw hu I e dd rk hk hl ry fun s' v w' I' r1 r2 => ⟨v, H, I', r1, q v r2⟩
  exact tail_any z.1 PySem.F.slot_dict_getitem.lookup z.2 hs
def gIxD : G2
  | .dct b ks ds, a => match fitB b a with
    | some k => lkN ks ds k
    | none => none
  | _, _ => none
theorem ve_ixD {a b : Expr} {sa sb : SE} {pos} (hw : X.w = c.G.w) (hu : X.A.units + 16 < cLine) (ha : PE X a (vt c sa)) (hb : PE X b (vt c sb)) (hs : PlainIx b := by exact fun _ _ => rfl) : PE X (.Subscript a b pos) (vt c (s2 gIxD sa sb)) :=
  pe_of (pe_ix (r := rD c.G gIxD) (fun value slice pins s σ H x y v u Q I rx ry ⟨F, a, b, d, e, ra, rb, hg, q⟩ hs => ix_X hw hu value slice pins s σ H x y v u Q I rx ry (by
    unfold gIxD at hg
    split at hg
    · split at hg
      · rename_i k z
        obtain ⟨p, ev, rr⟩ := dct_at e ra
        exact ⟨F, _, p, _, _, b, k, d, ev, e, rr, rb, z, hg, fun v rv => q.here e rv⟩
      · cases hg
    · cases hg) hs) ha hb hs) fun _ _ _ h => vt2 h
/-- of a dict of one's own -/
def sIxO (i : Nat) (b : SE) : SE := fun ρ => match (ρ[i]? : Option Sl) with
  | some (.dic _ _ _) => match b ρ with
    | some (kd, ρ1) => match (ρ1[i]? : Option Sl) with
      | some (.dic b ks ds) => match fitB b kd with
        | some k => match lkN ks ds k with
          | some d => some (d, ρ1)
          | none => none
        | none => none
      | _ => none
    | none => none
  | _ => none
theorem ve_ixO {a b : Expr} {i : Nat} {sb : SE} {pos} (hw : X.w = c.G.w) (hu : X.A.units + 16 < cLine) (ha : PE X a (tVar i)) (hb : PE X b (vt c sb)) (hs : PlainIx b := by exact fun _ _ => rfl) : PE X (.Subscript a b pos) (vt c (sIxO i sb)) := by
  refine pe_of (pe_ix (ix_X hw hu) ha hb hs) fun σ H Q ⟨F, ρ, I, d, ρ', e, q⟩ => ?_
  unfold sIxO at e
  split at e
  · rename_i b0 ks0 ds0 e0
    obtain ⟨p, _, g1, _⟩ := I.ownD e0
    split at e
    · rename_i kd ρ1 e1
      split at e
      · rename_i b1 ks ds e2
        split at e
        · rename_i k e3
          split at e
          · rename_i d' e4
            cases e
            refine ⟨_, g1, F, ρ, I, kd, ρ', e1, fun w H1 F1 x1 I1 r1 => ?_⟩
            obtain ⟨p', vs, k1, k2, k3, k4, k5⟩ := I1.ownD e2
            rw [g1] at k1
            cases k1
            exact ⟨F1, b1, p, ks, ds, kd, k, d, rfl, I1.fh, ⟨none, vs, k4, k5⟩, r1, e3, e4, fun v rv => q v H1 F1 x1 I1 rv⟩
          · cases e
        · cases e
      · cases e
    · cases e
  · cases e
end
end VS

set_option Elab.async false
set_option linter.all false
set_option maxRecDepth 100000
set_option maxHeartbeats 4000000
namespace VS
open PySem PySem.Spec PyProof.Rows L2
/-! a dict that is data, walked by keys and by values -/
def dkGo (d : Addr) (od : Obj) (n : Nat) : Nat → Hp → Prop := fun i H => (∃ u, H d = some (.frz od u)) ∧ i < n
def dkStop (d : Addr) (od : Obj) (n : Nat) : Nat → Hp → Prop := fun i H => (∃ u, H d = some (.frz od u)) ∧ n ≤ i
def ItDK (d : Addr) (od : Obj) (es : Array DictEntry) : It := ⟨dkGo d od es.size, fun i H x H' => H' = H ∧ ∃ en, es[i]? = some en ∧ L2.RelV x en.key, dkStop d od es.size⟩
def ItDV (d : Addr) (od : Obj) (es : Array DictEntry) : It := ⟨dkGo d od es.size, fun i H x H' => H' = H ∧ ∃ en, es[i]? = some en ∧ L2.RelV x en.val, dkStop d od es.size⟩
/-- each entry's key and value is a value of the layer's -/
def EntV (es : Array DictEntry) : Prop := ∀ (i : Nat) en, es[i]? = some en → (∃ x, L2.RelV x en.key) ∧ ∃ x, L2.RelV x en.val
section
variable {P : Program} {w : World} {K : PySem.W.Frag} {tg : Expr} {d : Addr} {od : Obj} {es : Array DictEntry} {ep : Nat}
theorem raw_of {X : Cx} {pins : List (Addr × Obj)} {σ : L2.St} {H : Hp} {s : Shared} (I : Inv X pins σ H s) (hx : od.ExactDict) (hd : od.data = .dict es ep) (h : ∃ u, H d = some (.frz od u)) : s.heap.DictRaw d es ep := by
  obtain ⟨u, h⟩ := h
  exact ⟨od, (I.hok d _ h).1, hx, hd⟩
theorem turn_dk (it : Addr) (hx : od.ExactDict) (hd : od.data = .dict es ep) (ev : EntV es) : Turn P w K tg (ItDK d od es) [it] it (fun i h => h.IsKeyIter it d i es.size ep) where
  mem := List.mem_singleton.mpr rfl
  obj := by
    intro i h ⟨oi, e, _, dd⟩ b hb
    rw [List.mem_singleton] at hb
    exact ⟨oi, by rw [hb]; exact e, fun v z => by rw [dd] at z; cases z⟩
  keep := fun i h h' st k => st.at (k it (List.mem_singleton.mpr rfl))
  item := by
    intro X hP hw hK hc i pins s σ H E I hf st ⟨hu, hi⟩
    subst hP; subst hw; subst hK
    obtain ⟨f0, f1, f2, f3, f4, f5⟩ := hf it (List.mem_singleton.mpr rfl)
    have he : es[i]? = some es[i] := Array.getElem?_eq_getElem hi
    obtain ⟨⟨x, rx⟩, _⟩ := ev i _ he
    refine wpAny_pyNext_keys_item_raw st (raw_of I hx hd hu) hi fun h' st' sb => ?_
    obtain ⟨oi, e, cc, dd⟩ := id st'
    exact ⟨_, rfl, go_of (s := { s with heap := h' }) e cc dd (by decide) ⟨x, H, I.turned (t' := s.toks) (fun b ob nb q => (sb.2 b nb).trans q) f0 f1 f3 f4 f5, rx, ⟨rfl, _, he, rx⟩, st', fun b hb => (hf b hb).1⟩⟩
  done := by
    intro X hP hw hK hc i pins s σ H E I hf st ⟨hu, hi⟩
    subst hP; subst hw; subst hK
    obtain ⟨f0, f1, f2, f3, f4, f5⟩ := hf it (List.mem_singleton.mpr rfl)
    exact wpAny_pyNext_keys_end_raw (I.ok.hd hc) st (raw_of I hx hd hu) hi fun h' eb => ⟨rfl, I.turned (t' := s.toks) (fun b ob nb q => eb b ob nb q) f0 f1 f3 f4 f5⟩
  self := fun A i s Q E st q => by
    refine wpAny_pyIter_slot st.typeIs F.slot_dict_keyiterator_iter (wpAny_call_entry F.slot_dict_keyiterator_iter st.typeIs F.entry_dict_keyiterator_iter ?_ (F.args_dict_keyiterator_iter_1 _))
    show wpAny _ _ (ret (.ref it)) _ _ s
    exact wpAny_pure ⟨_, rfl, "dict_keyiterator", _, st.typeIs, F.slot_dict_keyiterator_next.lookup, q⟩
theorem turn_dv (it : Addr) (hx : od.ExactDict) (hd : od.data = .dict es ep) (ev : EntV es) : Turn P w K tg (ItDV d od es) [it] it (fun i h => h.IsValIter it d i es.size ep) where
  mem := List.mem_singleton.mpr rfl
  obj := by
    intro i h ⟨oi, e, _, dd⟩ b hb
    rw [List.mem_singleton] at hb
    exact ⟨oi, by rw [hb]; exact e, fun v z => by rw [dd] at z; cases z⟩
  keep := fun i h h' st k => st.at (k it (List.mem_singleton.mpr rfl))
  item := by
    intro X hP hw hK hc i pins s σ H E I hf st ⟨hu, hi⟩
    subst hP; subst hw; subst hK
    obtain ⟨f0, f1, f2, f3, f4, f5⟩ := hf it (List.mem_singleton.mpr rfl)
    have he : es[i]? = some es[i] := Array.getElem?_eq_getElem hi
    obtain ⟨_, x, rx⟩ := ev i _ he
    refine wpAny_pyNext_values_item_raw st (raw_of I hx hd hu) hi fun h' st' sb => ?_
    obtain ⟨oi, e, cc, dd⟩ := id st'
    exact ⟨_, rfl, go_of (s := { s with heap := h' }) e cc dd (by decide) ⟨x, H, I.turned (t' := s.toks) (fun b ob nb q => (sb.2 b nb).trans q) f0 f1 f3 f4 f5, rx, ⟨rfl, _, he, rx⟩, st', fun b hb => (hf b hb).1⟩⟩
  done := by
    intro X hP hw hK hc i pins s σ H E I hf st ⟨hu, hi⟩
    subst hP; subst hw; subst hK
    obtain ⟨f0, f1, f2, f3, f4, f5⟩ := hf it (List.mem_singleton.mpr rfl)
    exact wpAny_pyNext_values_end_raw (I.ok.hd hc) st (raw_of I hx hd hu) hi fun h' eb => ⟨rfl, I.turned (t' := s.toks) (fun b ob nb q => eb b ob nb q) f0 f1 f3 f4 f5⟩
  self := fun A i s Q E st q => wpAny_pyIter_valiter st q
end
theorem relV_uniq {x y : V} {u : Value} (a : L2.RelV x u) (b : L2.RelV y u) : x = y := by
  cases u <;> cases x <;> cases y <;> simp_all [L2.RelV]
/-- what the locked dict's entries are, by data -/
def EntD (G : Gx) (F : Hp) (es : Array DictEntry) (ks : List NestedKey) (ds : List D) : Prop := es.size = ks.length ∧ es.size = ds.length ∧ EntV es ∧
  (∀ (i : Nat) en k x, es[i]? = some en → ks[i]? = some k → L2.RelV x en.key → Rep G F x (kD k)) ∧ ∀ (i : Nat) en d x, es[i]? = some en → ds[i]? = some d → L2.RelV x en.val → Rep G F x d
theorem kD_nk (q : Key) : kD (nkOf q) = (match q with | .inl i => .int i | .inr x => .str x) := by
  cases q <;> rfl
theorem Reps.at {G : Gx} {F : Hp} : ∀ {vs : List V} {ds : List D} {i : Nat} {v : V} {d : D}, Reps G F vs ds → vs[i]? = some v → ds[i]? = some d → Rep G F v d
  | _, _, _, _, _, .nil, h, _ => by simp at h
  | _, _, 0, _, _, .cons h _, e1, e2 => by
    rw [List.getElem?_cons_zero] at e1 e2
    cases e1; cases e2; exact h
  | _, _, i + 1, _, _, .cons _ r, e1, e2 => by
    rw [List.getElem?_cons_succ] at e1 e2
    exact Reps.at r e1 e2
theorem Vals.at {vs : List V} : ∀ {us : List Value} {i : Nat} {u : Value}, Vals vs us → us[i]? = some u → ∃ v, vs[i]? = some v ∧ L2.RelV v u := by
  induction vs with
  | nil => intro us i u h e; cases h; simp at e
  | cons v vs ih =>
    intro us i u h e
    cases h with
    | cons a b =>
      cases i with
      | zero => rw [List.getElem?_cons_zero] at e; cases e; exact ⟨v, rfl, a⟩
      | succ i => rw [List.getElem?_cons_succ] at e; exact ih b e
section
variable {X : Cx} {pins : List (Addr × Obj)} {σ : L2.St} {H : Hp} {s : Shared}
theorem ent_of {G : Gx} {F : Hp} {b : Bool} {od : Obj} {a : Addr} {ks : List NestedKey} {vs : List V} {ds : List D} (hw : X.w = G.w) (I : Inv X pins σ H s) (e : Ext F H) (d : DicAt G.w b (some od) F F a ks vs) (r : Reps G F vs ds) :
    (a == sysModules) = false ∧ od.ExactDict ∧ (∃ u, F a = some (.frz od u)) ∧ ∃ es ep, od.data = .dict es ep ∧ EntD G F es ks ds := by
  cases b with
  | true =>
    obtain ⟨xs, d⟩ := d
    have at' := d.at_
    rw [← hw] at at'
    obtain ⟨o, es, ep, h1, h2, h3, h4, h5⟩ := raw_at (l := some od) I (e _ _ at')
    obtain rfl := h5 od rfl
    have sz : es.size = xs.length := by rw [← Array.length_toList, h4, List.length_map]
    have vl : vs.length = xs.length := by have := d.vse.length; rw [List.length_map] at this; exact this
    have en : ∀ (i : Nat) en, es[i]? = some en → ∃ x, xs[i]? = some x ∧ en.key = .ref x.2.1 ∧ en.val = x.2.2 := fun i en z => by
      rw [← Array.getElem?_toList, h4, List.getElem?_map] at z
      cases y : xs[i]? with
      | none => rw [y] at z; cases z
      | some x => rw [y] at z; cases z; exact ⟨x, rfl, rfl, rfl⟩
    have vv : ∀ (i : Nat) x, xs[i]? = some x → ∃ v, vs[i]? = some v ∧ L2.RelV v x.2.2 := fun i x z => Vals.at d.vse (by rw [List.getElem?_map, z]; rfl)
    refine ⟨d.sys, h2, ⟨_, at'⟩, es, ep, h3, by rw [sz, d.kse, List.length_map], by rw [sz, ← vl, r.length], fun i en' z => ?_, fun i en' k x z1 z2 z3 => ?_, fun i en' d' x z1 z2 z3 => ?_⟩
    · obtain ⟨x, y1, y2, y3⟩ := en i en' z
      obtain ⟨v, _, y4⟩ := vv i x y1
      exact ⟨⟨.ref x.2.1, by rw [y2]; rfl⟩, ⟨v, by rw [y3]; exact y4⟩⟩
    · obtain ⟨y, y1, y2, y3⟩ := en i en' z1
      rw [d.kse, List.getElem?_map, y1] at z2
      cases z2
      rw [y2] at z3
      have ex : x = .ref y.2.1 := relV_uniq z3 rfl
      subst ex
      exact (d.ky y (List.mem_of_getElem? y1)).1.rep
    · obtain ⟨y, y1, y2, y3⟩ := en i en' z1
      obtain ⟨v, y4, y5⟩ := vv i y y1
      rw [y3] at z3
      obtain rfl := relV_uniq z3 y5
      exact Reps.at r y4 z2
  | false =>
    obtain ⟨kvs, d1, d2, d3, d4⟩ := d
    subst d2; subst d3
    obtain ⟨hs, hgd, hx, es, ep, us, hdt, hsz, kv, hm⟩ := I.frzK (e _ _ d1)
    have ul : kvs.length = us.length := Paired.length kv
    obtain ⟨es', ep', ⟨o', k1, k2, k3⟩, r2, r3⟩ := Heap.DictOf.raw hm.dictOf
    rw [hgd] at k1
    cases k1
    obtain ⟨rfl, rfl⟩ := dict_ep hdt k3
    have ent : ∀ (i : Nat) en, es'[i]? = some en → ∃ p u, kvs[i]? = some p ∧ us[i]? = some (p.1, u) ∧ L2.RelV p.2 u ∧ L2.RelV (kV p.1) en.key ∧ en.val = u := fun i en z => by
      obtain ⟨hi, z⟩ := Array.getElem?_eq_some_iff.mp z
      have hi' : i < kvs.length := by omega
      obtain ⟨u, q1, q2⟩ := kv_get kv (i := i) (k := kvs[i].1) (v := kvs[i].2) (List.getElem?_eq_getElem hi')
      obtain ⟨q3, q4⟩ := r3 i hi _ _ q1
      rw [z] at q3 q4
      exact ⟨kvs[i], u, List.getElem?_eq_getElem hi', q1, q2, keyIs_rel q3, q4⟩
    have rl := r.length
    rw [List.length_map] at rl
    refine ⟨hs, hx, ⟨_, d1⟩, es', ep', hdt, by rw [List.length_map]; exact hsz, by omega, fun i en' z => ?_, fun i en' k x z1 z2 z3 => ?_, fun i en' d' x z1 z2 z3 => ?_⟩
    · obtain ⟨p, u, y1, y2, y3, y4, y5⟩ := ent i en' z
      exact ⟨⟨_, y4⟩, ⟨p.2, by rw [y5]; exact y3⟩⟩
    · obtain ⟨p, u, y1, y2, y3, y4, y5⟩ := ent i en' z1
      rw [List.getElem?_map, y1] at z2
      cases z2
      obtain rfl := relV_uniq z3 y4
      obtain ⟨q, v⟩ := p
      cases q with
      | inl i => exact .int i
      | inr x => exact .str x
    · obtain ⟨p, u, y1, y2, y3, y4, y5⟩ := ent i en' z1
      rw [y5] at z3
      obtain rfl := relV_uniq z3 y3
      exact Reps.at r (by rw [List.getElem?_map, y1]; rfl) z2
end
/-- the dict at d, locked: R of its entries -/
def iDctK (td : TE) : TI := fun σ H R => td σ H fun x H1 => ∃ d od, x = V.ref d ∧ (∃ u, H1 d = some (.frz od u)) ∧ ∀ es ep, (d == sysModules) = false → od.ExactDict → od.data = .dict es ep → R (ItDK d od es) H1
section
variable {c : Ctx} {X : Cx} {tg : Expr}
theorem yields_dk {F0 : Hp} {d : Addr} {od : Obj} {es : Array DictEntry} {ks : List NestedKey} {ds : List D} (hd : ∃ u, F0 d = some (.frz od u)) (en : EntD c.G F0 es ks ds) : Yields c.G (ItDK d od es) F0 (ks.map kD) := by
  intro F H x e
  obtain ⟨u, hd⟩ := hd
  have hH := e _ _ (x _ _ hd)
  obtain ⟨e1, e2, e3, e4, e5⟩ := en
  refine ⟨fun i k hk => ?_, ⟨u, hH⟩, by rw [e1, List.length_map]; exact Nat.le_refl _⟩
  rw [List.getElem?_map] at hk
  cases z : ks[i]? with
  | none => rw [z] at hk; cases hk
  | some k0 =>
    rw [z] at hk
    cases hk
    have hi : i < es.size := by rw [e1]; exact (List.getElem?_eq_some_iff.mp z).1
    refine ⟨⟨⟨u, hH⟩, hi⟩, fun v H' ⟨eH, en', y1, y2⟩ => ?_⟩
    subst eH
    exact ⟨F, Grow.refl e, (e4 i en' k0 v y1 z y2).ext x⟩
theorem yields_dv {F0 : Hp} {d : Addr} {od : Obj} {es : Array DictEntry} {ks : List NestedKey} {ds : List D} (hd : ∃ u, F0 d = some (.frz od u)) (en : EntD c.G F0 es ks ds) : Yields c.G (ItDV d od es) F0 ds := by
  intro F H x e
  obtain ⟨u, hd⟩ := hd
  have hH := e _ _ (x _ _ hd)
  obtain ⟨e1, e2, e3, e4, e5⟩ := en
  refine ⟨fun i d0 hk => ?_, ⟨u, hH⟩, by rw [e2]; exact Nat.le_refl _⟩
  have hi : i < es.size := by rw [e2]; exact (List.getElem?_eq_some_iff.mp hk).1
  refine ⟨⟨⟨u, hH⟩, hi⟩, fun v H' ⟨eH, en', y1, y2⟩ => ?_⟩
  subst eH
  exact ⟨F, Grow.refl e, (e5 i en' d0 v y1 hk y2).ext x⟩
/-- for k in d -/
def iKeysD (a : SE) : SI := fun ρ => match a ρ with
  | some (.dct _ ks _, ρ') => some (ks.map kD, ρ')
  | _ => none
def iValsD (a : SE) : SI := fun ρ => match a ρ with
  | some (.dct _ _ ds, ρ') => some (ds, ρ')
  | _ => none
theorem dct_inv {F : Hp} {v : V} {b : Bool} {ks : List NestedKey} {ds : List D} (r : Rep c.G F v (.dct b ks ds)) : ∃ a od vs, v = .ref a ∧ DicAt c.G.w b (some od) F F a ks vs ∧ Reps c.G F vs ds := by
  generalize z : D.dct b ks ds = d at r
  cases r with
  | dct h1 rs => cases z; exact ⟨_, _, _, rfl, h1, rs⟩
  | _ => cases z
theorem vi_keys {e : Expr} {a : SE} (hw : X.w = c.G.w) (h : PE X e (vt c a)) : PI X tg e (vi c (iKeysD a)) := by
  refine ⟨fun pins s σ H R I ⟨F, ρ, J, ds0, ρ', e0, q⟩ => ?_⟩
  unfold iKeysD at e0
  split at e0
  · rename_i b ks ds ρ1 e1
    cases e0
    refine thn (h.run pins s σ H (fun v H1 => ∃ F1, Ext F F1 ∧ Ok c F1 H1 σ ρ' ∧ Rep c.G F1 v (.dct b ks ds)) I ⟨F, ρ, J, _, ρ', e1, fun v H' F' x' J' r' => ⟨F', x', J', r'⟩⟩) fun u s1 ⟨v, H1, I1, r1, F1, x1, J1, rr⟩ => ?_
    obtain ⟨d, od, vs, ev, da, rs⟩ := dct_inv rr
    subst ev
    obtain rfl : u = Value.ref d := r1
    obtain ⟨hs, hx, hu, es, ep, hdt, en⟩ := ent_of hw I1 J1.fh da rs
    have raw : s1.heap.DictRaw d es ep := raw_of I1 hx hdt (let ⟨u, z⟩ := hu; ⟨u, J1.fh _ _ z⟩)
    exact wpAny_pyIter_dict_raw hs raw (pi_one (tk := s1.toks) I1 _ (turn_dk _ hx hdt en.2.2.1) ⟨_, Heap.get?_push_size _ rfl, rfl, rfl⟩ (q _ H1 F1 x1 J1 (yields_dk hu en)))
  · cases e0
/-- for v in d.values() -/
theorem vi_vals {e : Expr} {a : SE} {apos cpos : Pos} (hw : X.w = c.G.w) (h : PE X e (vt c a)) (hbase : attributeBase e "values" X.env (eval e X.env) = eval e X.env := by rfl) (hline : (apos.endLine == cpos.line) = true := by rfl) :
    PI X tg (.Call (.Attribute e "values" apos) [] [] cpos) (vi c (iValsD a)) := by
  refine ⟨fun pins s σ H R I ⟨F, ρ, J, ds0, ρ', e0, q⟩ => ?_⟩
  unfold iValsD at e0
  split at e0
  · rename_i b ks ds ρ1 e1
    cases e0
    refine wpAny_Call_method (T := "dict") (id := "dict.values") hbase rfl hline PySem.F.plainAttrs_dict PySem.F.slot_dict_values PySem.F.type_dict_values (thn (h.run pins s σ H (fun v H1 => ∃ F1, Ext F F1 ∧ Ok c F1 H1 σ ρ' ∧ Rep c.G F1 v (.dct b ks ds0)) I ⟨F, ρ, J, _, ρ', e1, fun v H' F' x' J' r' => ⟨F', x', J', r'⟩⟩) fun u s1 ⟨v, H1, I1, r1, F1, x1, J1, rr⟩ => ?_)
    obtain ⟨d, od, vs, ev, da, rs⟩ := dct_inv rr
    subst ev
    obtain rfl : u = Value.ref d := r1
    obtain ⟨hs, hx, hu, es, ep, hdt, en⟩ := ent_of hw I1 J1.fh da rs
    have raw : s1.heap.DictRaw d es ep := raw_of I1 hx hdt (let ⟨u, z⟩ := hu; ⟨u, J1.fh _ _ z⟩)
    have I2 : Inv X pins σ H1 { s1 with heap := s1.heap.push { cls := .type "dict_values", data := .fields #[.ref d] } } := I1.kept (t' := s1.toks) fun b ob q => Heap.get?_push_of_some _ q
    refine ⟨raw.typeIs, ?_, ?_⟩
    · obtain ⟨o, k1, k2, k3⟩ := raw
      exact fun a z => by cases z; exact ⟨o, k1, k2.2.1⟩
    have fin : wpAny (model X.prog X.w) X.A (pyIter (.ref s1.heap.objs.size)) (PIE X pins σ tg R) X.xe { s1 with heap := s1.heap.push { cls := .type "dict_values", data := .fields #[.ref d] } } :=
      wpAny_pyIter_values_raw (d := d) ⟨_, Heap.get?_push_size _ rfl, rfl, rfl⟩ (raw.at fun o z => Heap.get?_push_of_some _ z) (pi_one (tk := s1.toks) I2 _ (turn_dv _ hx hdt en.2.2.1) ⟨_, Heap.get?_push_size _ rfl, rfl, rfl⟩ (q _ H1 F1 x1 J1 (yields_dv hu en)))
    exact method_meetsIn PySem.F.slot_dict_values PySem.F.entry_dict_values rfl (PySem.evalArgs_none ⟨rfl, raw.typeIs, PySem.F.args_dict_values_1 _, _, meets_dict_values_raw d hs, ⟨es, ep, raw⟩, fin⟩)
  · cases e0
end
end VS

set_option Elab.async false
set_option linter.all false
set_option maxRecDepth 100000
set_option maxHeartbeats 4000000
namespace VS
open PySem PySem.Spec PyProof.Rows L2
/-! blocks that change nothing of the frame: comprehensions of two clauses, dict comprehensions -/
def pure1 : Sl → Sl
  | .val d => .val d
  | .lam h => .lam h
  | _ => .no
def pureR (ix : List Nat) (ρ : Rho) : Rho := wipeR (ρ.map pure1) ix
theorem pure1_mut (s : Sl) : (pure1 s).mut = false := by cases s <;> rfl
theorem pureR_get {ix : List Nat} {ρ : Rho} {j : Nat} {s : Sl} (h : (pureR ix ρ)[j]? = some s) : (s = .no ∧ j < ρ.length) ∨ (j ∉ ix ∧ ∃ s0, ρ[j]? = some s0 ∧ s = pure1 s0) := by
  unfold pureR at h
  rw [wipeR_get] at h
  by_cases z : j ∈ ix
  · rw [if_pos z] at h
    by_cases y : j < (ρ.map pure1).length
    · rw [if_pos y] at h; cases h; rw [List.length_map] at y; exact .inl ⟨rfl, y⟩
    · rw [if_neg y] at h; cases h
  · rw [if_neg z, List.getElem?_map] at h
    cases y : ρ[j]? with
    | none => rw [y] at h; cases h
    | some s0 => rw [y] at h; cases h; exact .inr ⟨z, s0, rfl, rfl⟩
section
variable {c : Ctx} {X : Cx}
theorem Ok.enterP {F H : Hp} {σ : L2.St} {ρ : Rho} (I : Ok c F H σ ρ) (ix : List Nat) : Ok ⟨c.G, F, H, []⟩ F H (wipe σ ix) (pureR ix ρ) := by
  refine ⟨by unfold pureR; rw [wipe_length, wipeR_length, List.length_map]; exact I.len, Ext.rfl', I.fh, fun p o h _ _ => h, fun p o h => ⟨o, h⟩, fun p o _ n => n, fun j s hs => ?_, fun i j s t p q hi hj ms => ?_, fun p hp => absurd hp (by simp), I.tb⟩
  · rcases pureR_get hs with ⟨e, hl⟩ | ⟨hj, s0, h0, e⟩
    · subst e
      have : j < (wipe σ ix).length := by rw [wipe_length, I.len]; exact hl
      exact ⟨_, List.getElem?_eq_getElem this, by cases (wipe σ ix)[j] <;> trivial⟩
    · obtain ⟨ov, g1, g2⟩ := I.sl j s0 h0
      refine ⟨ov, by rw [wipe_get, if_neg hj]; exact g1, ?_⟩
      subst e
      cases s0 with
      | val d =>
        cases ov with
        | none => exact g2
        | some v => exact g2
      | lam f =>
        cases ov with
        | none => exact g2
        | some v => exact g2
      | _ => cases ov <;> trivial
  · rcases pureR_get hi with ⟨e, _⟩ | ⟨_, s0, _, e⟩
    · subst e; cases ms
    · subst e; rw [pure1_mut] at ms; cases ms
/-- less is known of what was there -/
theorem Ok.less {F0 H0 F H : Hp} {σ : L2.St} {ρ : Rho} {G : Gx} {D : Addr} (I : Ok ⟨G, F0, H0, []⟩ F H σ ρ) : Ok ⟨G, F0, rmA [D] H0, []⟩ F H σ ρ := by
  refine ⟨I.len, I.f0, I.fh, fun p o h => I.fr p o (rmA_some h).2, fun p o h => I.al p o (rmA_some h).2, fun p o h => I.n0 p o (rmA_some h).2, fun j s hs => ?_, I.ap, fun p hp => absurd hp (by simp), I.tb⟩
  obtain ⟨ov, g1, g2⟩ := I.sl j s hs
  refine ⟨ov, g1, ?_⟩
  have nn : ∀ p, H0 p = none → rmA [D] H0 p = none := fun p h => by
    by_cases z : p ∈ [D]
    · exact rmA_in z
    · rw [rmA_out z]; exact h
  cases s with
  | no => cases ov <;> trivial
  | val d =>
    cases ov with
    | none => exact g2
    | some v => exact g2
  | lam d =>
    cases ov with
    | none => exact g2
    | some v => exact g2
  | own xs =>
    cases ov with
    | none => exact g2
    | some v => obtain ⟨p, e, a1, r⟩ := g2; exact ⟨p, e, nn p a1, r⟩
  | bor xs =>
    cases ov with
    | none => exact g2
    | some v => obtain ⟨p, e, a1, r⟩ := g2; exact absurd a1 (by simp)
  | slf k xs =>
    cases ov with
    | none => exact g2
    | some v => obtain ⟨p, e, a1, r⟩ := g2; exact absurd a1 (by simp)
  | dic b ks xs =>
    cases ov with
    | none => exact g2
    | some v => obtain ⟨p, e, a1, r⟩ := g2; exact ⟨p, e, nn p a1, r⟩
/-- what a block did, all but D known to stand; D has been written -/
theorem keep_blk {G : Gx} {F H F' H' : Hp} {σ : L2.St} {ρ : Rho} {D : Addr} {B : List Addr} {u0 u : HO} (J : Ok ⟨G, F, H, []⟩ F' H' σ ρ) (hD : H D = some u0) (hF : F D = none) (nt : ∀ ps, u0 ≠ .tbl ps) (nc : ∀ c q, u0 ≠ LamX.CodeO c q) : Keep G.T [D] F H F' (upd H' D u) := by
  have hD' : H' D = some u0 := J.fr D u0 hD (by simp) nt
  have hF' : F' D = none := J.n0 D u0 hD hF
  refine ⟨J.f0, fun p o e => ?_, fun p o e n nt' => ?_, fun p o e => ?_, fun p o e n => J.n0 p o e n, fun _ => ⟨tabs_upd J.tb.t hD' nt nc, J.tb.n⟩⟩
  · rw [upd_ne (fun z => by rw [z, hF'] at e; cases e)]; exact J.fh p o e
  · rw [upd_ne (fun z => n (by rw [z]; exact List.mem_singleton.mpr rfl))]; exact J.fr p o e (by simp) nt'
  · by_cases z : p = D
    · subst z; exact ⟨_, upd_same⟩
    · obtain ⟨o', e'⟩ := J.al p o e
      exact ⟨o', by rw [upd_ne z]; exact e'⟩
/-- the same, D written in between -/
theorem keep_less {G : Gx} {F H F' H' : Hp} {σ : L2.St} {ρ : Rho} {D : Addr} (J : Ok ⟨G, F, rmA [D] H, []⟩ F' H' σ ρ) (hD' : ∃ u, H' D = some u) (hF' : F' D = none) : Keep G.T [D] F H F' H' := by
  have nm : ∀ p, p ≠ D → p ∉ [D] := fun p n z => n (List.mem_singleton.mp z)
  refine ⟨J.f0, J.fh, fun p o e n nt' => J.fr p o (by show rmA [D] H p = some o; rw [rmA_out n]; exact e) (by simp) nt', fun p o e => ?_, fun p o e n => ?_, fun _ => J.tb⟩
  · by_cases z : p = D
    · subst z; exact hD'
    · exact J.al p o (by show rmA [D] H p = some o; rw [rmA_out (nm p z)]; exact e)
  · by_cases z : p = D
    · subst z; exact hF'
    · exact J.n0 p o (by show rmA [D] H p = some o; rw [rmA_out (nm p z)]; exact e) n
end
/-- one turn, by the frame of its block -/
def turnP {α : Type} (ρp : Rho) (t : Tg) (tt : SB) (f : Rho → Option α) (d : D) : Option (Option α) := match tgt t d ρp with
  | some ρ1 => match tt ρ1 with
    | some (true, ρ2) => (f ρ2).map some
    | some (false, _) => some none
    | none => none
  | none => none
theorem turnP_inv {α : Type} {ρp : Rho} {t : Tg} {tt : SB} {f : Rho → Option α} {d : D} {r : Option α} (h : turnP ρp t tt f d = some r) : ∃ ρ1 b ρ2, tgt t d ρp = some ρ1 ∧ tt ρ1 = some (b, ρ2) ∧ ((b = true ∧ ∃ x, f ρ2 = some x ∧ r = some x) ∨ (b = false ∧ r = none)) := by
  unfold turnP at h
  cases e1 : tgt t d ρp with
  | none => rw [e1] at h; cases h
  | some ρ1 =>
    rw [e1] at h
    dsimp only at h
    cases e2 : tt ρ1 with
    | none => rw [e2] at h; cases h
    | some p =>
      obtain ⟨b, ρ2⟩ := p
      rw [e2] at h
      refine ⟨ρ1, b, ρ2, rfl, e2, ?_⟩
      cases b with
      | true =>
        dsimp only at h
        cases e3 : f ρ2 with
        | none => rw [e3] at h; cases h
        | some x => rw [e3] at h; cases h; exact .inl ⟨rfl, x, rfl, rfl⟩
      | false => cases h; exact .inr ⟨rfl, rfl⟩
/-- what all turns give, one behind the other -/
def pMap {α : Type} (f : D → Option (Option α)) : List D → Option (List α)
  | [] => some []
  | d :: r => match f d with
    | some (some x) => (pMap f r).map (x :: ·)
    | some none => pMap f r
    | none => none
def pFlat {α : Type} (f : D → Option (Option (List α))) : List D → Option (List α)
  | [] => some []
  | d :: r => match f d with
    | some (some x) => (pFlat f r).map (x ++ ·)
    | some none => pFlat f r
    | none => none
/-- [elt for t in it if tt for t1 in it1 if tt1] -/
def in2 (it1 : SI) (t1 : Tg) (tt1 : SB) (e : SE) (ρ : Rho) : Option (List D) := match it1 ρ with
  | some (ds, ρ1) => pMap (turnP (pureR t1.ix ρ1) t1 tt1 fun ρ => (e ρ).map (·.1)) ds
  | none => none
def sComp2 (it : SI) (t : Tg) (tt : SB) (it1 : SI) (t1 : Tg) (tt1 : SB) (e : SE) : SE := fun ρ => match it ρ with
  | some (ds, ρ1) => match pFlat (turnP (pureR (t.ix ++ t1.ix) ρ1) t tt (in2 it1 t1 tt1 e)) ds with
    | some out => if out.length ≤ LN then some (.lst out, ρ1) else none
    | none => none
  | none => none
def viX (G : Gx) (s : SI) : TI := fun σ H R => ∃ F0 H0 B, vi ⟨G, F0, H0, B⟩ s σ H R
theorem pis_X {X : Cx} {G : Gx} {tg e : Expr} {s : SI} (h : ∀ F0 H0 B, PI X tg e (vi ⟨G, F0, H0, B⟩ s)) : PI X tg e (viX G s) :=
  ⟨fun pins sh σ H Q I ⟨F0, H0, B, q⟩ => (h F0 H0 B).run pins sh σ H Q I q⟩
theorem pMap_cons {α : Type} {f : D → Option (Option α)} {d : D} {r : List D} {out : List α} (h : pMap f (d :: r) = some out) : (∃ x o2, f d = some (some x) ∧ pMap f r = some o2 ∧ out = x :: o2) ∨ (f d = some none ∧ pMap f r = some out) := by
  unfold pMap at h
  cases e : f d with
  | none => rw [e] at h; cases h
  | some y =>
    rw [e] at h
    cases y with
    | none => exact .inr ⟨rfl, h⟩
    | some x =>
      dsimp only at h
      cases e2 : pMap f r with
      | none => rw [e2] at h; cases h
      | some o2 => rw [e2] at h; cases h; exact .inl ⟨x, o2, rfl, rfl, rfl⟩
theorem pFlat_cons {α : Type} {f : D → Option (Option (List α))} {d : D} {r : List D} {out : List α} (h : pFlat f (d :: r) = some out) : (∃ x o2, f d = some (some x) ∧ pFlat f r = some o2 ∧ out = x ++ o2) ∨ (f d = some none ∧ pFlat f r = some out) := by
  unfold pFlat at h
  cases e : f d with
  | none => rw [e] at h; cases h
  | some y =>
    rw [e] at h
    cases y with
    | none => exact .inr ⟨rfl, h⟩
    | some x =>
      dsimp only at h
      cases e2 : pFlat f r with
      | none => rw [e2] at h; cases h
      | some o2 => rw [e2] at h; cases h; exact .inl ⟨x, o2, rfl, rfl, rfl⟩
section
variable {c : Ctx} {K : PySem.W.Frag}
/-- the list at p grows within the frame -/
def LstG (c : Ctx) (F1 : Hp) (σ : L2.St) (ρ : Rho) (p : Addr) (acc : List VS.D) (H : Hp) : Prop := ∃ F2 av, Ok c F2 H σ ρ ∧ Ext F1 F2 ∧ H p = some (.lst av) ∧ F2 p = none ∧ Reps c.G F2 av acc
theorem wipe_again (σ : L2.St) (vs : List Nat) : wipe (wipe σ vs) vs = wipe σ vs := by
  apply List.ext_getElem?
  intro j
  rw [wipe_get, wipe_get, wipe_length]
  by_cases hj : j ∈ vs <;> simp [hj]
theorem drop_nil' {α : Type} {l : List α} {i : Nat} (h : ¬ i < l.length) : l.drop i = [] := List.drop_eq_nil_of_le (by omega)
theorem comp2_w {it : SI} {t : Tg} {tt : SB} {it1 : SI} {t1 : Tg} {tt1 : SB} {e : SE} (σ : L2.St) (H : Hp) (Q : VK) (h : vt c (sComp2 it t tt it1 t1 tt1 e) σ H Q) : tLc2 (vi c it) (gT K t) (vbX c.G tt) (viX c.G it1) (gT K t1) (vbX c.G tt1) (vtX c.G e) (t.ix ++ t1.ix) t1.ix σ H Q := by
  obtain ⟨F, ρ, I, d, ρ', hs, q⟩ := h
  unfold sComp2 at hs
  cases e1 : it ρ with
  | none => rw [e1] at hs; cases hs
  | some p1 =>
  obtain ⟨ds, ρ1⟩ := p1
  rw [e1] at hs
  dsimp only at hs
  generalize hf : turnP (pureR (t.ix ++ t1.ix) ρ1) t tt (in2 it1 t1 tt1 e) = f at hs
  cases e2 : pFlat f ds with
  | none => rw [e2] at hs; cases hs
  | some out =>
  rw [e2] at hs
  dsimp only at hs
  by_cases hlen : out.length ≤ LN
  case neg => rw [if_neg hlen] at hs; cases hs
  rw [if_pos hlen] at hs
  cases hs
  refine ⟨F, ρ, I, ds, ρ', e1, fun J H1 F1 x1 I1 y p hp => ?_⟩
  have hpF : F1 p = none := ext_none I1.fh hp
  have hp0 := I1.no_H0 hp
  have apart := I1.no_slot hp
  have kept : ∀ {F2 H2 F3 H3 : Hp}, Ok c F2 H2 σ ρ' → Keep c.G.T [p] F2 H2 F3 H3 → (∃ av, H2 p = some (.lst av)) → Ok c F3 H3 σ ρ' := fun I2 k ⟨av, z⟩ =>
    I2.kept k (fun q hq => by rw [List.mem_singleton.mp hq]; exact hp0) (fun q hq o ho => by rw [List.mem_singleton.mp hq, z] at ho; cases ho; exact nl_lst) fun j s q h1 h2 h3 hq => apart j s q h1 h2 h3 (List.mem_singleton.mp hq)
  refine ⟨fun i m H => m = ds.length - i ∧ i ≤ ds.length ∧ ∃ acc rest, LstG c F1 σ ρ' p acc H ∧ pFlat f (ds.drop i) = some rest ∧ acc ++ rest = out,
    ⟨ds.length, by simp, Nat.zero_le _, [], out, ⟨F1, [], I1.grow (Grow.raw I1.fh hp), Ext.rfl', upd_same, hpF, .nil⟩, e2, rfl⟩, ?_⟩
  rintro i m H2 ⟨rfl, hi, acc, rest, ⟨F2, av, I2, x2, hp2, hpF2, r2⟩, l2, ho⟩
  obtain ⟨y1, y2⟩ := y F2 H2 x2 I2.fh
  by_cases hlt : i < ds.length
  · rw [List.drop_eq_getElem_cons hlt] at l2
    obtain ⟨g1, g2⟩ := y1 i ds[i] (by simp [hlt])
    refine .inr ⟨g1, fun H => i + 1 ≤ ds.length ∧ ∃ acc rest, LstG c F1 σ ρ' p acc H ∧ pFlat f (ds.drop (i + 1)) = some rest ∧ acc ++ rest = out, fun H' ⟨a, b⟩ => ⟨ds.length - (i + 1), by omega, rfl, a, b⟩, fun x H' yy => ?_⟩
    obtain ⟨F3, g3, r3⟩ := g2 x H' yy
    have I3 := I2.grow g3
    have J3 := I3.enterP (t.ix ++ t1.ix)
    have hp3 := g3.h _ _ hp2
    have hpF3 := g3.n _ _ hp2 hpF2
    have turn : ∃ ρa b ρb, tgt t ds[i] (pureR (t.ix ++ t1.ix) ρ') = some ρa ∧ tt ρa = some (b, ρb) ∧ ((b = true ∧ ∃ o1 o2, in2 it1 t1 tt1 e ρb = some o1 ∧ pFlat f (ds.drop (i + 1)) = some o2 ∧ rest = o1 ++ o2) ∨ (b = false ∧ pFlat f (ds.drop (i + 1)) = some rest)) := by
      rcases pFlat_cons l2 with ⟨o1, o2, z1, z2, z3⟩ | ⟨z1, z2⟩
      · rw [← hf] at z1
        obtain ⟨ρa, b, ρb, k1, k2, k3⟩ := turnP_inv z1
        rcases k3 with ⟨kb, o1', k4, k5⟩ | ⟨kb, k5⟩
        · cases k5; exact ⟨ρa, b, ρb, k1, k2, .inl ⟨kb, o1, o2, k4, z2, z3⟩⟩
        · cases k5
      · rw [← hf] at z1
        obtain ⟨ρa, b, ρb, k1, k2, k3⟩ := turnP_inv z1
        rcases k3 with ⟨kb, o1', k4, k5⟩ | ⟨kb, k5⟩
        · cases k5
        · exact ⟨ρa, b, ρb, k1, k2, .inr ⟨kb, z2⟩⟩
    obtain ⟨ρa, b, ρb, k1, k2, k3⟩ := turn
    refine tgt_w J3 r3 k1 fun σ4 J4 w4 => ⟨by rw [w4 _ fun j hj => List.mem_append_left _ hj]; exact wipe_again _ _, F3, H', [], F3, ρa, J4, b, ρb, k2, fun H4 F4 x4 J5 => ?_⟩
    rcases k3 with ⟨rfl, o1, o2, z1, z2, z3⟩ | ⟨rfl, z2⟩
    · unfold in2 at z1
      cases e3 : it1 ρb with
      | none => rw [e3] at z1; cases z1
      | some p3 =>
      obtain ⟨ds1, ρc⟩ := p3
      rw [e3] at z1
      dsimp only at z1
      generalize hf1 : (turnP (pureR t1.ix ρc) t1 tt1 fun ρ => (e ρ).map (·.1)) = f1 at z1
      refine iteT ⟨F3, H', [], F4, ρb, J5, ds1, ρc, e3, fun J1 H5 F5 x5 J6 yy1 => ?_⟩
      have hp5 : H5 p = some (.lst av) := J6.fr p _ hp3 (by simp) nt_lst
      have hpF5 : F5 p = none := J6.n0 p _ hp3 hpF3
      have apart1 : ∀ (j : Nat) (s : Sl) (q : Addr), ρc[j]? = some s → s.mut = true → σ4[j]? = some (some (V.ref q)) → q ≠ p := fun j s q h1 h2 h3 z => by
        obtain ⟨ov, g1, g2⟩ := J6.sl j s h1
        rw [h3] at g1
        cases g1
        cases s with
        | own xs => obtain ⟨q', e', a1, _⟩ := g2; cases e'; rw [z] at a1; have a1 : H' p = none := a1; rw [hp3] at a1; cases a1
        | dic b ks xs => obtain ⟨q', e', a1, _⟩ := g2; cases e'; rw [z] at a1; have a1 : H' p = none := a1; rw [hp3] at a1; cases a1
        | bor xs => obtain ⟨q', e', a1, _⟩ := g2; exact absurd a1 (by simp)
        | slf k xs => obtain ⟨q', e', a1, _⟩ := g2; exact absurd a1 (by simp)
        | _ => cases h2
      have kept1 : ∀ {F6 H6 F7 H7 : Hp} {B : List Addr}, (∀ b ∈ B, b = p) → Ok ⟨c.G, F3, rmA [p] H', []⟩ F6 H6 σ4 ρc → Keep c.G.T B F6 H6 F7 H7 → (∃ av, H6 p = some (.lst av)) → Ok ⟨c.G, F3, rmA [p] H', []⟩ F7 H7 σ4 ρc := fun hB I6 k ⟨av, z⟩ =>
        I6.kept k (fun q hq => by rw [hB q hq]; exact rmA_in (List.mem_singleton.mpr rfl)) (fun q hq o ho => by rw [hB q hq, z] at ho; cases ho; exact nl_lst) fun j s q h1 h2 h3 hq => apart1 j s q h1 h2 h3 (hB q hq)
      refine ⟨fun j k H => k = ds1.length - j ∧ j ≤ ds1.length ∧ ∃ a1 rest1 F6 av6, Ok ⟨c.G, F3, rmA [p] H', []⟩ F6 H σ4 ρc ∧ Ext F5 F6 ∧ H p = some (.lst av6) ∧ F6 p = none ∧ Reps c.G F6 av6 (acc ++ a1) ∧ pMap f1 (ds1.drop j) = some rest1 ∧ a1 ++ rest1 = o1,
        ⟨ds1.length, by simp, Nat.zero_le _, [], o1, F5, av, J6.less, Ext.rfl', hp5, hpF5, by rw [List.append_nil]; exact (r2.ext g3.f).ext J6.f0, z1, rfl⟩, ?_⟩
      rintro j k H6 ⟨rfl, hj, a1, rest1, F6, av6, J7, x6, hp6, hpF6, r6, l6, ho1⟩
      obtain ⟨v1, v2⟩ := yy1 F6 H6 x6 J7.fh
      by_cases hlt1 : j < ds1.length
      · rw [List.drop_eq_getElem_cons hlt1] at l6
        obtain ⟨w1, w2⟩ := v1 j ds1[j] (by simp [hlt1])
        refine .inr ⟨w1, fun H => j + 1 ≤ ds1.length ∧ ∃ a1 rest1 F6 av6, Ok ⟨c.G, F3, rmA [p] H', []⟩ F6 H σ4 ρc ∧ Ext F5 F6 ∧ H p = some (.lst av6) ∧ F6 p = none ∧ Reps c.G F6 av6 (acc ++ a1) ∧ pMap f1 (ds1.drop (j + 1)) = some rest1 ∧ a1 ++ rest1 = o1,
          fun H' ⟨a, b⟩ => ⟨ds1.length - (j + 1), by omega, rfl, a, b⟩, fun x7 H7 yy7 => ?_⟩
        obtain ⟨F7, g7, r7⟩ := w2 x7 H7 yy7
        have K7 := J7.grow g7
        have L7 := K7.enterP t1.ix
        have hp7 := g7.h _ _ hp6
        have hpF7 := g7.n _ _ hp6 hpF6
        have turn1 : ∃ ρa b ρb, tgt t1 ds1[j] (pureR t1.ix ρc) = some ρa ∧ tt1 ρa = some (b, ρb) ∧ ((b = true ∧ ∃ y ρd o2, e ρb = some (y, ρd) ∧ pMap f1 (ds1.drop (j + 1)) = some o2 ∧ rest1 = y :: o2) ∨ (b = false ∧ pMap f1 (ds1.drop (j + 1)) = some rest1)) := by
          rcases pMap_cons l6 with ⟨y, o2, z1, z2, z3⟩ | ⟨z1, z2⟩
          · rw [← hf1] at z1
            obtain ⟨ρa, b, ρb, k1, k2, k3⟩ := turnP_inv z1
            rcases k3 with ⟨kb, y', k4, k5⟩ | ⟨kb, k5⟩
            · cases k5
              cases k6 : e ρb with
              | none => rw [k6] at k4; cases k4
              | some p6 => rw [k6] at k4; cases k4; exact ⟨ρa, b, ρb, k1, k2, .inl ⟨kb, _, p6.2, o2, k6, z2, z3⟩⟩
            · cases k5
          · rw [← hf1] at z1
            obtain ⟨ρa, b, ρb, k1, k2, k3⟩ := turnP_inv z1
            rcases k3 with ⟨kb, o1', k4, k5⟩ | ⟨kb, k5⟩
            · cases k5
            · exact ⟨ρa, b, ρb, k1, k2, .inr ⟨kb, z2⟩⟩
        obtain ⟨ρd, b1, ρe, m1, m2, m3⟩ := turn1
        refine tgt_w L7 r7 m1 fun σ8 L8 w8 => ⟨by rw [w8 _ fun j hj => hj]; exact wipe_again _ _, F7, H7, [], F7, ρd, L8, b1, ρe, m2, fun H9 F9 x9 L9 => ?_⟩
        rcases m3 with ⟨rfl, y9, ρg, o9, m4, m5, m6⟩ | ⟨rfl, m5⟩
        · refine iteT ⟨F7, H7, [], F9, ρe, L9, y9, ρg, m4, fun v10 H10 F10 x10 L10 r10 => ?_⟩
          have hp10 : H10 p = some (.lst av6) := L10.fr p _ hp7 (by simp) nt_lst
          have hpF10 : F10 p = none := L10.n0 p _ hp7 hpF7
          have r11 : Reps c.G F10 av6 (acc ++ a1) := (r6.ext g7.f).ext L10.f0
          have hz : av6.length < sizeLine := by
            rw [r11.length]
            have : (acc ++ a1).length < out.length := by rw [← ho, z3, ← ho1, m6]; simp <;> omega
            have := ln_fit hlen
            omega
          refine ⟨av6, hp10, hz, hlt1, a1 ++ [y9], o9, F10, av6 ++ [v10], ?_, (x6.trans g7.f).trans L10.f0, upd_same, hpF10, by rw [← List.append_assoc]; exact r11.append (.one r10), m5, by rw [← ho1, m6]; simp⟩
          exact kept1 (B := [p]) (fun b hb => List.mem_singleton.mp hb) K7 (keep_blk L10 hp7 hpF7 nt_lst nc_lst (B := [])) ⟨_, hp7⟩
        · refine iteF ⟨hlt1, a1, rest1, F9, av6, ?_, (x6.trans g7.f).trans L9.f0, L9.fr p _ hp7 (by simp) nt_lst, L9.n0 p _ hp7 hpF7, (r6.ext g7.f).ext L9.f0, m5, ho1⟩
          exact kept1 (B := [p]) (fun b hb => List.mem_singleton.mp hb) K7 (keep_less L9.less ⟨_, L9.fr p _ hp7 (by simp) nt_lst⟩ (L9.n0 p _ hp7 hpF7)) ⟨_, hp7⟩
      · refine .inl ⟨?_, hlt, acc ++ o1, o2, ⟨F6, av6, kept I3 (keep_less J7 ⟨_, hp6⟩ hpF6) ⟨_, hp3⟩, ((x2.trans g3.f).trans J7.f0), hp6, hpF6, ?_⟩, z2, by rw [← ho, z3]; simp⟩
        · have : j = ds1.length := by omega
          rw [this]; exact v2
        · rw [drop_nil' hlt1] at l6
          cases l6
          rw [List.append_nil] at ho1
          rw [← ho1]; exact r6
    · refine iteF ⟨hlt, acc, rest, ⟨F4, av, ?_, (x2.trans g3.f).trans J5.f0, J5.fr p _ hp3 (by simp) nt_lst, J5.n0 p _ hp3 hpF3, (r2.ext g3.f).ext J5.f0⟩, z2, ho⟩
      exact kept I3 (keep_less J5.less ⟨_, J5.fr p _ hp3 (by simp) nt_lst⟩ (J5.n0 p _ hp3 hpF3)) ⟨_, hp3⟩
  · rw [drop_nil' hlt] at l2
    cases l2
    rw [List.append_nil] at ho
    subst ho
    have hi' : i = ds.length := by omega
    refine .inl ⟨by rw [hi']; exact y2, ?_⟩
    exact q _ H2 _ ((x1.trans x2).trans (Ext.upd hpF2)) (I2.sealO hp2 nt_lst nl_lst hpF2 hp0 apart) (.lst upd_same (r2.ext (Ext.upd hpF2)))
end
section
variable {c : Ctx} {X : Cx}
theorem ve_lc2 {elt tg iter tg1 iter1 : Expr} {ifs ifs1 : List Expr} {scope : Scope} {own : List (Str × Nat)} {pos : Pos} {it it1 : SI} {tt tt1 : SB} {e : SE} (t t1 : Tg) (hc : X.calm = true) (hN : X.N.Nodup) (hi : PI X tg iter (vi c it)) (ok : BlkOk X.N X.env.scope scope own) (hix : own.map (·.2) = t.ix ++ t1.ix)
    (hg : ∀ (s : Shared) (H : Hp) (C : Addr) (cl : List (Str × Addr)) (fp : List Addr), PG (X.blk s H scope (compEnvC scope cl C X.env) fp) tg (gT X.K t))
    (ht : ∀ (s : Shared) (H : Hp) (C : Addr) (cl : List (Str × Addr)) (fp : List Addr) (F0 H0 : Hp) (B : List Addr), PTs (X.blk s H scope (compEnvC scope cl C X.env) fp) ifs (vb ⟨c.G, F0, H0, B⟩ tt))
    (hi1 : ∀ (s : Shared) (H : Hp) (C : Addr) (cl : List (Str × Addr)) (fp : List Addr) (F0 H0 : Hp) (B : List Addr), PI (X.blk s H scope (compEnvC scope cl C X.env) fp) tg1 iter1 (vi ⟨c.G, F0, H0, B⟩ it1))
    (hg1 : ∀ (s : Shared) (H : Hp) (C : Addr) (cl : List (Str × Addr)) (fp : List Addr), PG (X.blk s H scope (compEnvC scope cl C X.env) fp) tg1 (gT X.K t1))
    (ht1 : ∀ (s : Shared) (H : Hp) (C : Addr) (cl : List (Str × Addr)) (fp : List Addr) (F0 H0 : Hp) (B : List Addr), PTs (X.blk s H scope (compEnvC scope cl C X.env) fp) ifs1 (vb ⟨c.G, F0, H0, B⟩ tt1))
    (he : ∀ (s : Shared) (H : Hp) (C : Addr) (cl : List (Str × Addr)) (fp : List Addr) (F0 H0 : Hp) (B : List Addr), PE (X.blk s H scope (compEnvC scope cl C X.env) fp) elt (vt ⟨c.G, F0, H0, B⟩ e))
    (hs : ∀ x, foldedSetIterable iter X.env x = pure x := by intro _; rfl) (hs1 : ∀ env x, foldedSetIterable iter1 env x = pure x := by intro _ _; rfl) :
    PE X (.ListComp elt [⟨tg, iter, ifs, 0⟩, ⟨tg1, iter1, ifs1, 0⟩] scope pos) (vt c (sComp2 it t tt it1 t1 tt1 e)) :=
  pe_of (pe_lc2 (vs1 := t1.ix) hc hN hi ok (fun i h => by rw [hix]; exact List.mem_append_right _ h) hg (fun s H C cl fp => pts_X (ht s H C cl fp)) (fun s H C cl fp => pis_X (hi1 s H C cl fp)) hg1 (fun s H C cl fp => pts_X (ht1 s H C cl fp)) (fun s H C cl fp => pe_X (he s H C cl fp)) hs hs1) fun σ H Q q => by
    rw [hix]
    exact comp2_w σ H Q q
theorem vs_setLc2 {i : Nat} {y : Str} {py : Pos} {elt tg iter tg1 iter1 : Expr} {ifs ifs1 : List Expr} {scope : Scope} {own : List (Str × Nat)} {pos spos : Pos} {it it1 : SI} {tt tt1 : SB} {e : SE} (t t1 : Tg) (hc : X.calm = true) (hN : X.N.Nodup) (hi : PI X tg iter (vi c it)) (ok : BlkOk X.N X.env.scope scope own) (hix : own.map (·.2) = t.ix ++ t1.ix)
    (hg : ∀ (s : Shared) (H : Hp) (C : Addr) (cl : List (Str × Addr)) (fp : List Addr), PG (X.blk s H scope (compEnvC scope cl C X.env) fp) tg (gT X.K t))
    (ht : ∀ (s : Shared) (H : Hp) (C : Addr) (cl : List (Str × Addr)) (fp : List Addr) (F0 H0 : Hp) (B : List Addr), PTs (X.blk s H scope (compEnvC scope cl C X.env) fp) ifs (vb ⟨c.G, F0, H0, B⟩ tt))
    (hi1 : ∀ (s : Shared) (H : Hp) (C : Addr) (cl : List (Str × Addr)) (fp : List Addr) (F0 H0 : Hp) (B : List Addr), PI (X.blk s H scope (compEnvC scope cl C X.env) fp) tg1 iter1 (vi ⟨c.G, F0, H0, B⟩ it1))
    (hg1 : ∀ (s : Shared) (H : Hp) (C : Addr) (cl : List (Str × Addr)) (fp : List Addr), PG (X.blk s H scope (compEnvC scope cl C X.env) fp) tg1 (gT X.K t1))
    (ht1 : ∀ (s : Shared) (H : Hp) (C : Addr) (cl : List (Str × Addr)) (fp : List Addr) (F0 H0 : Hp) (B : List Addr), PTs (X.blk s H scope (compEnvC scope cl C X.env) fp) ifs1 (vb ⟨c.G, F0, H0, B⟩ tt1))
    (he : ∀ (s : Shared) (H : Hp) (C : Addr) (cl : List (Str × Addr)) (fp : List Addr) (F0 H0 : Hp) (B : List Addr), PE (X.blk s H scope (compEnvC scope cl C X.env) fp) elt (vt ⟨c.G, F0, H0, B⟩ e))
    (hsw : swapsWith (.ListComp elt [⟨tg, iter, ifs, 0⟩, ⟨tg1, iter1, ifs1, 0⟩] scope pos) (some (.Name y py)) spos.line X.env = pure true)
    (hy : X.N[i]? = some y := by rfl) (hyl : X.env.scope.names.lookup y = some .local := by rfl)
    (hs : ∀ x, foldedSetIterable iter X.env x = pure x := by intro _; rfl) (hs1 : ∀ env x, foldedSetIterable iter1 env x = pure x := by intro _ _; rfl) :
    PS X (.Assign [.Name y py] (.ListComp elt [⟨tg, iter, ifs, 0⟩, ⟨tg1, iter1, ifs1, 0⟩] scope pos) spos) (vs c (kSet i (sComp2 it t tt it1 t1 tt1 e))) :=
  ps_of (ps_setLc2 (vs1 := t1.ix) hc hN hy hyl hsw hi ok (fun i h => by rw [hix]; exact List.mem_append_right _ h) hg (fun s H C cl fp => pts_X (ht s H C cl fp)) (fun s H C cl fp => pis_X (hi1 s H C cl fp)) hg1 (fun s H C cl fp => pts_X (ht1 s H C cl fp)) (fun s H C cl fp => pe_X (he s H C cl fp)) hs hs1) fun σ H E ⟨F, ρ, I, fl, ρ', e1, q⟩ => by
    unfold kSet at e1
    split at e1
    · rename_i d ρ1 e2
      cases e1
      rw [hix]
      exact comp2_w σ H _ ⟨F, ρ, I, d, ρ1, e2, fun v H1 F1 x1 I1 r1 => q _ _ F1 x1 (I1.put i r1)⟩
    · cases e1
end
end VS

set_option Elab.async false
set_option linter.all false
set_option maxRecDepth 100000
set_option maxHeartbeats 4000000
namespace VS
open PySem PySem.Spec PyProof.Rows L2
/-! {k: v for x in it if ..}, the dict of either kind; it is locked once it is made -/
abbrev TPut := Addr → V → V → Hp → (Hp → Prop) → Prop
/-- what a comprehension's store asks -/
def DPutR (Y : Cx) (t : TPut) : Prop := ∀ (pins : List (Addr × Obj)) (s : Shared) (σ : L2.St) (H : Hp) (p : Addr) (y z : V) (u r : Value) (Q : Hp → Prop) (E : Value → Shared → Prop), Inv Y pins σ H s → L2.RelV y u → L2.RelV z r → t p y z H Q →
  wpAny (model Y.prog Y.w) Y.A (dictSet p u r) (fun _ s' => ∃ H', Inv Y pins σ H' s' ∧ Q H') E s
def rPutB (G : Gx) : TPut := fun p y z H Q => ∃ F b ks vs ds kd d key, Ext F H ∧ DicAt G.w b none F H p ks vs ∧ Reps G F vs ds ∧ Rep G F y kd ∧ fitB b kd = some key ∧ Rep G F z d ∧ ks.length < LN ∧
  ∀ u vs', dicU G.w p u → DicAt G.w b none F (upd H p u) p (pkN ks key) vs' → Reps G F vs' (pvN ks ds key d) → Q (upd H p u)
theorem put_dicB {Y : Cx} {G : Gx} (hw : Y.w = G.w) (hu : Y.A.units + 16 < cLine) : DPutR Y (rPutB G) := by
  intro pins s σ H p i v iv u Q E I ri rv ⟨F, b, ks, vs, ds, kd, d, key, e, da, rs, rk, hk, rd, hl, q⟩
  cases b with
  | true =>
    obtain ⟨xs, da⟩ := da
    rw [← hw] at da
    obtain ⟨kk, k1, k2, k3⟩ := fitT hk
    have kv := rk.key k1
    obtain ⟨a, rfl⟩ : ∃ a, i = .ref a := by rw [k2] at kv; exact kv.ref
    obtain rfl : iv = Value.ref a := ri
    have dd := raw_dict I e da
    have ik : (nestedKind Y.prog Y.w).is s.heap key a := ⟨KV1.is I.hok e kv rfl, k3⟩
    have rm : (nestedKind Y.prog Y.w).room Y.A := by show Y.A.units + 8 < cLine; omega
    obtain ⟨z1, vs', z2, z3⟩ := put_raw (k := key) (a := a) rv rd da.vse rs
    rw [← da.kse] at z1 z3
    have xl : xs.length < LN := by have := da.kse; rw [this, List.length_map] at hl; exact hl
    refine wpAny_dictSet_heap rm ik dd (fun h' dd' hs => ?_) (Nat.le_trans (Nat.le_of_lt xl) (ln_fit (Nat.le_refl _)))
    obtain ⟨o', es, ep, g1, g2, g3, g4, g5, g6⟩ := dd'
    refine ⟨_, d_write (ob := rawO Y.w p (storedH xs key a u)) I (by rw [da.at_]; exact True.intro) hs ⟨o', g1⟩ (raw_ok g1 g2 g3 g4), ?_⟩
    refine q _ vs' (.inr ⟨_, by rw [hw]⟩) ⟨storedH xs key a u, by rw [← hw]; exact upd_same, da.sys, z1.symm, by rw [← z1]; exact g6, z2, fun x hx => ?_, Nat.le_trans len_stored xl⟩ z3
    rcases mem_stored hx with ⟨y, y1, y2, y3⟩ | ⟨y2, y3⟩
    · rw [y2, y3]; exact da.ky y y1
    · rw [y2, y3]; exact ⟨kv, k3⟩
  | false =>
    obtain ⟨kvs, d1, d2, d3, d4⟩ := da
    obtain ⟨qk, k1, k2⟩ := fitF hk
    have kv := rk.key k1
    rw [k2] at kv
    have ex := kv.key
    subst ex
    subst d3
    have kl : kvs.length < LN := by rw [d2, List.length_map] at hl; exact hl
    have dl : H p = some (.dK kvs) := d1
    obtain ⟨z1, z2⟩ := put_key (k := qk) rd rs
    refine d_dictSet I dl (Nat.lt_of_lt_of_le kl (ln_fit (Nat.le_refl _))) ri rv fun s' I' => ⟨_, I', ?_⟩
    refine q _ ((putK kvs qk v).map (·.2)) (.inl ⟨_, rfl⟩) ⟨putK kvs qk v, upd_same, ?_, rfl, Nat.le_trans (length_putK kvs qk v) kl⟩ ?_
    · rw [z1, d2, k2]
    · rw [d2, k2]; exact z2
/-- the empty dict -/
def dic0 (w : World) (b : Bool) (p : Addr) : HO := if b = true then rawO w p [] else .dK []
theorem dic0_mut {w : World} {b : Bool} {p : Addr} : Mut (some (dic0 w b p)) := by cases b <;> exact True.intro
theorem dic0_ok {P : Program} {w : World} {H : Hp} (b : Bool) (h : Heap) (hb : sysModules < h.objs.size) : ObjOk P w H (h.push { cls := .type "dict", data := .dict #[] }) h.objs.size (dic0 w b h.objs.size) := by
  cases b with
  | true =>
    have g : (h.push { cls := .type "dict", data := .dict #[] }).get? h.objs.size = some { cls := .type "dict", data := .dict #[] } := Heap.get?_push_size _ rfl
    exact ⟨⟨_, #[], _, g, ⟨rfl, rfl, rfl⟩, rfl, rfl⟩, ⟨_, g⟩, fun g1 g2 ⟨o', es', ep', k1, k2, k3, k4⟩ st => ⟨o', es', ep', st o' k1, k2, k3, k4⟩⟩
  | false => exact dk_empty h hb
theorem dic0_at {G : Gx} {F H : Hp} {b : Bool} {p : Addr} (hs : (p == sysModules) = false) (h : H p = some (dic0 G.w b p)) : DicAt G.w b none F H p [] [] := by
  cases b with
  | true => exact ⟨[], h, hs, rfl, List.nodup_nil, .nil, fun x hx => absurd hx (by simp), Nat.zero_le _⟩
  | false => exact ⟨[], h, rfl, rfl, Nat.zero_le _⟩
def tDcX (w : World) (b : Bool) (put : TPut) (wi : TI) (g : TG) (tt : TT) (tk tv : TE) (vs : List Nat) : TE := fun σ H Q => wi σ H fun J H1 => ∀ p, H1 p = none → (p == sysModules) = false → ∃ W : Nat → Nat → Hp → Prop, (∃ m, W 0 m (upd H1 p (dic0 w b p))) ∧ ∀ i m H, W i m H →
  (J.stop i H ∧ ∃ u, H p = some u ∧ Mut (some u) ∧ ∀ od, Q (.ref p) (upd H p (.frz od u))) ∨ (J.go i H ∧ ∃ Nx : Hp → Prop, (∀ H', Nx H' → ∃ m', m' < m ∧ W (i + 1) m' H') ∧ ∀ x H', J.yld i H x H' → g x (wipe σ vs) H' fun σ2 H2 => wipe σ2 vs = wipe σ vs ∧ tt σ2 H2 fun k H3 =>
    if k = true then tk σ2 H3 fun y H4 => tv σ2 H4 fun z H5 => put p y z H5 Nx else Nx H3)
section
variable {X : Cx}
theorem dcx_run {put : TPut} {b : Bool} {kx vx tg iter : Expr} {ifs : List Expr} {scope : Scope} {own : List (Str × Nat)} {pos : Pos} {wi : TI} {g : TG} {tt : TT} {tk tv : TE} (calm : X.calm = true) (nd : X.N.Nodup) (hi : PI X tg iter wi) (ok : BlkOk X.N X.env.scope scope own)
    (hg : ∀ (s : Shared) (H : Hp) (C : Addr) (cl : List (Str × Addr)) (fp : List Addr), PG (X.blk s H scope (compEnvC scope cl C X.env) fp) tg g) (ht : ∀ (s : Shared) (H : Hp) (C : Addr) (cl : List (Str × Addr)) (fp : List Addr), PTs (X.blk s H scope (compEnvC scope cl C X.env) fp) ifs tt)
    (hk : ∀ (s : Shared) (H : Hp) (C : Addr) (cl : List (Str × Addr)) (fp : List Addr), PE (X.blk s H scope (compEnvC scope cl C X.env) fp) kx tk) (hv : ∀ (s : Shared) (H : Hp) (C : Addr) (cl : List (Str × Addr)) (fp : List Addr), PE (X.blk s H scope (compEnvC scope cl C X.env) fp) vx tv)
    (hp : ∀ (s : Shared) (H : Hp) (C : Addr) (cl : List (Str × Addr)) (fp : List Addr), DPutR (X.blk s H scope (compEnvC scope cl C X.env) fp) put) (hs : ∀ x, foldedSetIterable iter X.env x = pure x := by intro _; rfl) :
    PE X (.DictComp kx vx [⟨tg, iter, ifs, 0⟩] scope pos) (tDcX X.w b put wi g tt tk tv (own.map (·.2))) := by
  refine ⟨fun pins sh σ Hh Q I0 rd => ?_⟩
  rw [arm_eval_DictComp]
  have free : ∀ y ∈ scope.names, y.2 = .free → ∃ a, X.env.cells.lookup y.1 = some a := fun y hy e => (ok.free y hy e).elim (fun z => I0.ok.has _ (.inl z)) fun z => I0.ok.has _ (.inr z)
  refine wpAny_comprehension_free (use := none) rfl hs (closure_ok free) ok.kind (fun y hy e => by rw [ok.uniq y hy, e]) (thn (hi.run pins sh σ Hh _ I0 rd) fun v1 sh1 got => thn got fun v2 sh2 got2 => ?_)
  obtain ⟨it, fp, tn, J, Ha, ev, Ia, T, ta, fa, qa⟩ := got2
  subst ev
  refine wpAny_newObj_type (newEnv_comp ?_)
  generalize hD : sh2.heap.objs.size = p
  have pn : Ha p = none := Ia.hok.fresh (Nat.le_of_eq hD)
  have psys : (p == sysModules) = false := by rw [← hD]; exact beq_eq_false_iff_ne.mpr (Ne.symm (Nat.ne_of_lt Ia.big))
  obtain ⟨W, ⟨m0, w0⟩, turn⟩ := qa p pn psys
  generalize eb : ({ sh2 with heap := sh2.heap.push { cls := .type "dict", data := .dict #[] } } : Shared) = shb
  have Ib : Inv X pins σ (upd Ha p (dic0 X.w b p)) shb := by
    rw [← eb]
    refine Ia.laid (t' := sh2.toks) (fun a o e => Heap.get?_push_of_some _ e) (Nat.le_of_eq hD) ?_
    rw [← hD]
    exact dic0_ok b sh2.heap Ia.big
  have hb : shb.heap = sh2.heap.push { cls := .type "dict", data := .dict #[] } := by rw [← eb]
  have small : ∀ a ∈ fp, a < sh2.heap.objs.size := fun a ha => let ⟨_, e, _⟩ := T.obj _ _ ta a ha; Heap.lt_size e
  have fb : ∀ a ∈ fp, FpOk X pins (upd Ha p (dic0 X.w b p)) a ∧ a < shb.heap.objs.size := fun a ha =>
    ⟨⟨by rw [upd_ne (by rw [← hD]; exact Nat.ne_of_lt (small a ha))]; exact (fa a ha).1, (fa a ha).2⟩, by rw [hb, Heap.size_push]; exact Nat.lt_succ_of_lt (small a ha)⟩
  have tb : tn 0 shb.heap := T.keep _ _ _ ta fun a _ o e => by rw [hb]; exact Heap.get?_push_of_some _ e
  have Ic := block_start Ib ok nd fb
  have pg := hg shb (upd Ha p (dic0 X.w b p)) shb.heap.objs.size (cellsFrom (shb.heap.objs.size + 1) scope.names (cloFrom X.env.cells scope.names [])) fp
  have pt := ht shb (upd Ha p (dic0 X.w b p)) shb.heap.objs.size (cellsFrom (shb.heap.objs.size + 1) scope.names (cloFrom X.env.cells scope.names [])) fp
  have pk := hk shb (upd Ha p (dic0 X.w b p)) shb.heap.objs.size (cellsFrom (shb.heap.objs.size + 1) scope.names (cloFrom X.env.cells scope.names [])) fp
  have pv := hv shb (upd Ha p (dic0 X.w b p)) shb.heap.objs.size (cellsFrom (shb.heap.objs.size + 1) scope.names (cloFrom X.env.cells scope.names [])) fp
  have pp := hp shb (upd Ha p (dic0 X.w b p)) shb.heap.objs.size (cellsFrom (shb.heap.objs.size + 1) scope.names (cloFrom X.env.cells scope.names [])) fp
  show codeAny _ _ (.compStart (.DictComp kx vx [⟨tg, iter, ifs, 0⟩] scope pos) 0 (.ref it) (.ref p) (compEnvC scope (cellsFrom (shb.heap.objs.size + 1) scope.names (cloFrom X.env.cells scope.names [])) shb.heap.objs.size X.env)) (compPost (model X.prog X.w) X.A X.xe none (EP X pins σ Q) (.ref p) shb.heap.objs.size) { shb with heap := pushCells (shb.heap.push { cls := .type "dict", data := .dict #[] }) scope.names }
  generalize ec : compEnvC scope (cellsFrom (shb.heap.objs.size + 1) scope.names (cloFrom X.env.cells scope.names [])) shb.heap.objs.size X.env = ce at Ic pg pt pk pv pp ⊢
  have cl : ce.locals = shb.heap.objs.size := by subst ec; rfl
  have nfp : ∀ a ∈ fp, (upd Ha p (dic0 X.w b p)) a = none := fun a ha => (fb a ha).1.1
  generalize eH : upd Ha p (dic0 X.w b p) = Hb at Ib Ic pg pt pk pv pp w0 nfp fb
  generalize ed : ({ shb with heap := pushCells (shb.heap.push { cls := .type "dict", data := .dict #[] }) scope.names } : Shared) = shc at Ic ⊢
  have tc : tn 0 shc.heap := T.keep _ _ _ tb fun a _ o e => by rw [← ed]; exact pushCells_keeps _ _ _ _ (Heap.get?_push_of_some _ e)
  have stat : ∀ {σ' : L2.St} {H' : Hp} {s' : Shared}, Inv (X.blk shb Hb scope ce fp) [] σ' H' s' → (∀ a ∈ fp, H' a = none) → ∀ a ∈ fp, FpOk (X.blk shb Hb scope ce fp) [] H' a := fun {σ' H' s'} I' n a ha =>
    ⟨n a ha, (I'.ok.exf a ha).1, I'.ok.exfs a ha, .inl ha, fun x q e => (I'.ok.exf a ha).2 x q e, fun z hz => absurd (show z ∈ ([] : List (Addr × Obj)) ++ [] from hz) (by simp)⟩
  have loop : codeAny (model X.prog X.w) X.A (.compLoop (.DictComp kx vx [⟨tg, iter, ifs, 0⟩] scope pos) 0 (.ref it) (.ref p) ce) (compPost (model X.prog X.w) X.A X.xe none (EP X pins σ Q) (.ref p) shb.heap.objs.size) shc := by
    refine compLoop_anyD (fun n s' => ∃ i H', Inv (X.blk shb Hb scope ce fp) [] (wipe σ (own.map (·.2))) H' s' ∧ tn i s'.heap ∧ (∀ a ∈ fp, H' a = none) ∧ W i n H') ?_ m0 ⟨0, Hb, Ic, tc, nfp, w0⟩
    rintro n s5 ⟨i, H5, I5, t5, n5, w5⟩
    rcases turn i n H5 w5 with ⟨stop, u0, hu, mu, qq⟩ | ⟨go, Nx, hNx, step⟩
    · refine thnF (T.done (X.blk shb Hb scope ce fp) rfl rfl rfl calm i [] s5 _ H5 (fun _ _ => False) I5 (stat I5 n5) t5 stop) fun r s6 ⟨er, I6⟩ => ?_
      subst er
      have I7 : Inv X pins σ H5 s6 := Ib.call' (ch := fp) I6.os I6.base I6.hok I6.bare fun a ha => ⟨(fb a ha).1.2.2.2.1, (fb a ha).1.2.1, (fb a ha).1.2.2.2.2.1, (fb a ha).1.2.2.2.2.2⟩
      have nC : H5 shb.heap.objs.size = none := by have z : H5 ce.locals = none := I6.free; rw [cl] at z; exact z
      obtain ⟨mm, hn, _⟩ := I6.loc
      have hn : s6.heap.Ns ce.locals mm := hn
      rw [cl] at hn
      have fp7 := Ib.fpOk (Nat.le_refl _) nC
      obtain ⟨od, I8⟩ := I7.lock hu mu
      obtain ⟨f0, f1, f2, f3, f4, f5⟩ := fp7
      refine ⟨mm, hn, fun h2 sb => ⟨.ref p, upd H5 p (.frz od u0), I8.turned (t' := s6.toks) (fun a o ha e => (sb.2 a ha).trans e) ?_ f1 f3 f4 f5, rfl, qq od⟩⟩
      rw [upd_ne (fun z => by rw [← z, nC] at hu; cases hu)]
      exact nC
    · refine thnF (T.item (X.blk shb Hb scope ce fp) rfl rfl rfl calm i [] s5 _ H5 (fun _ _ => False) I5 (stat I5 n5) t5 go) fun r s6 ⟨u, er, h6⟩ => ?_
      subst er
      refine thnF h6 fun _ s7 ⟨x, H7, I7, r7, y7, t7, n7⟩ => ?_
      have I7' := I7.pinned (stat I7 n7) (T.obj _ _ t7)
      refine thnF (pg.run _ s7 _ H7 x u _ I7' r7 (step x H7 y7)) fun _ s8 ⟨σ8, H8, I8, hw8, q8⟩ => ?_
      refine thnF (pt.run _ s8 σ8 H8 _ I8 q8) fun k9 s9 ⟨H9, I9, q9⟩ => ?_
      have fin : ∀ {s' : Shared} {H' : Hp}, Inv (X.blk shb Hb scope ce fp) ([] ++ pinsAt fp s7.heap) σ8 H' s' → Nx H' → ∃ m, m < n ∧ ∃ i H', Inv (X.blk shb Hb scope ce fp) [] (wipe σ (own.map (·.2))) H' s' ∧ tn i s'.heap ∧ (∀ a ∈ fp, H' a = none) ∧ W i m H' := fun {s' H'} I' nx => by
        obtain ⟨m', hm, w'⟩ := hNx H' nx
        have pin : ∀ a ∈ fp, ∀ o, s7.heap.get? a = some o → s'.heap.get? a = some o ∧ H' a = none := fun a ha o e => let z := I'.pin (a, o) (List.mem_append_right _ (List.mem_append_right _ (mem_pinsAt ha e))); ⟨z.1, z.2.1⟩
        have ln : (wipe σ (own.map (·.2))).length = σ8.length := by rw [← hw8, wipe_length]
        refine ⟨m', hm, i + 1, H', (I'.unpinned (pins := [])).weak ln (fun j v e => by rw [← hw8] at e; exact (wipe_some e).1), T.keep _ _ _ t7 fun a ha o e => (pin a ha o e).1, fun a ha => ?_, w'⟩
        obtain ⟨o, e, _⟩ := T.obj _ _ t7 a ha
        exact (pin a ha o e).2
      cases k9 with
      | false =>
        rw [if_neg (by decide)] at q9
        exact fin I9 q9
      | true =>
        rw [if_pos rfl] at q9
        refine thnF (pk.run _ s9 σ8 H9 _ I9 q9) fun z1 s10 ⟨yk, H10, I10, r10, q10⟩ => ?_
        refine thnF (pv.run _ s10 σ8 H10 _ I10 q10) fun z2 s11 ⟨yv, H11, I11, r11, q11⟩ => ?_
        exact wpAny_mono (pp _ s11 σ8 H11 p yk yv z1 z2 Nx _ I11 r10 r11 q11) (fun _ s12 ⟨H12, I12, nx⟩ => fin I12 nx) fun _ _ z => z
  exact codeAny_compStart_dict loop (T.self X.A 0 _ _ _ tc loop)
end
/-- turn by turn into the table -/
def dLoop (f : D → Option (Option (NestedKey × D))) : List D → List NestedKey → List D → Option (List NestedKey × List D)
  | [], ks, vs => some (ks, vs)
  | d :: r, ks, vs => match f d with
    | some (some (k, x)) => if ks.length < LN then dLoop f r (pkN ks k) (pvN ks vs k x) else none
    | some none => dLoop f r ks vs
    | none => none
def kvOf (b : Bool) (k e : SE) (ρ : Rho) : Option (NestedKey × D) := match k ρ with
  | some (kd, ρ1) => match e ρ1 with
    | some (x, _) => (fitB b kd).map fun key => (key, x)
    | none => none
  | none => none
def sDc (b : Bool) (it : SI) (t : Tg) (tt : SB) (k e : SE) : SE := fun ρ => match it ρ with
  | some (ds, ρ1) => match dLoop (turnP (pureR t.ix ρ1) t tt (kvOf b k e)) ds [] [] with
    | some (ks, vs) => some (.dct b ks vs, ρ1)
    | none => none
  | none => none
section
variable {c : Ctx} {K : PySem.W.Frag}
theorem dcx_w {w : World} {b : Bool} {it : SI} {t : Tg} {tt : SB} {k e : SE} (hw : w = c.G.w) (σ : L2.St) (H : Hp) (Q : VK) (h : vt c (sDc b it t tt k e) σ H Q) : tDcX w b (rPutB c.G) (vi c it) (gT K t) (vbX c.G tt) (vtX c.G k) (vtX c.G e) t.ix σ H Q := by
  subst hw
  obtain ⟨F, ρ, I, d, ρ', hs, q⟩ := h
  unfold sDc at hs
  cases e1 : it ρ with
  | none => rw [e1] at hs; cases hs
  | some p1 =>
  obtain ⟨ds, ρ1⟩ := p1
  rw [e1] at hs
  dsimp only at hs
  generalize hf : turnP (pureR t.ix ρ1) t tt (kvOf b k e) = f at hs
  cases e2 : dLoop f ds [] [] with
  | none => rw [e2] at hs; cases hs
  | some tab =>
  obtain ⟨ksF, vsF⟩ := tab
  rw [e2] at hs
  cases hs
  refine ⟨F, ρ, I, ds, ρ', e1, fun J H1 F1 x1 I1 y p hp psys => ?_⟩
  have hpF : F1 p = none := ext_none I1.fh hp
  have hp0 := I1.no_H0 hp
  have apart := I1.no_slot hp
  refine ⟨fun i m H => m = ds.length - i ∧ i ≤ ds.length ∧ ∃ F2 ks vs dv, Ok c F2 H σ ρ' ∧ Ext F1 F2 ∧ F2 p = none ∧ DicAt c.G.w b none F2 H p ks vs ∧ Reps c.G F2 vs dv ∧ dLoop f (ds.drop i) ks dv = some (ksF, vsF),
    ⟨ds.length, by simp, Nat.zero_le _, F1, [], [], [], I1.grow (Grow.raw I1.fh hp), Ext.rfl', hpF, dic0_at psys upd_same, .nil, e2⟩, ?_⟩
  rintro i m H2 ⟨rfl, hi, F2, ks, vs, dv, I2, x2, hpF2, da, rs, l2⟩
  obtain ⟨y1, y2⟩ := y F2 H2 x2 I2.fh
  obtain ⟨u2, hu2, du2, mk2⟩ := da.u
  by_cases hlt : i < ds.length
  · rw [List.drop_eq_getElem_cons hlt] at l2
    obtain ⟨g1, g2⟩ := y1 i ds[i] (by simp [hlt])
    refine .inr ⟨g1, fun H => i + 1 ≤ ds.length ∧ ∃ F2 ks vs dv, Ok c F2 H σ ρ' ∧ Ext F1 F2 ∧ F2 p = none ∧ DicAt c.G.w b none F2 H p ks vs ∧ Reps c.G F2 vs dv ∧ dLoop f (ds.drop (i + 1)) ks dv = some (ksF, vsF), fun H' ⟨a, b⟩ => ⟨ds.length - (i + 1), by omega, rfl, a, b⟩, fun x H' yy => ?_⟩
    obtain ⟨F3, g3, r3⟩ := g2 x H' yy
    have I3 := I2.grow g3
    have J3 := I3.enterP t.ix
    have hp3 := g3.h _ _ hu2
    have hpF3 := g3.n _ _ hu2 hpF2
    have kept : ∀ {F4 H4 : Hp}, Keep c.G.T [p] F3 H' F4 H4 → Ok c F4 H4 σ ρ' := fun kp =>
      I3.kept kp (fun q hq => by rw [List.mem_singleton.mp hq]; exact hp0) (fun q hq o ho => by rw [List.mem_singleton.mp hq, hp3] at ho; cases ho; exact du2.nl none) fun j s q h1 h2 h3 hq => apart j s q h1 h2 h3 (List.mem_singleton.mp hq)
    have turn : ∃ ρa kb ρb, tgt t ds[i] (pureR t.ix ρ') = some ρa ∧ tt ρa = some (kb, ρb) ∧ ((kb = true ∧ ∃ key z, kvOf b k e ρb = some (key, z) ∧ ks.length < LN ∧ dLoop f (ds.drop (i + 1)) (pkN ks key) (pvN ks dv key z) = some (ksF, vsF)) ∨ (kb = false ∧ dLoop f (ds.drop (i + 1)) ks dv = some (ksF, vsF))) := by
      unfold dLoop at l2
      cases z : f ds[i] with
      | none => rw [z] at l2; cases l2
      | some o =>
        rw [z] at l2
        rw [← hf] at z
        obtain ⟨ρa, kb, ρb, k1, k2, k3⟩ := turnP_inv z
        refine ⟨ρa, kb, ρb, k1, k2, ?_⟩
        rcases k3 with ⟨k3, kz, k4, k5⟩ | ⟨k3, k5⟩
        · subst k5
          dsimp only at l2
          by_cases hl : ks.length < LN
          · rw [if_pos hl] at l2; exact .inl ⟨k3, kz.1, kz.2, k4, hl, l2⟩
          · rw [if_neg hl] at l2; cases l2
        · subst k5
          exact .inr ⟨k3, l2⟩
    obtain ⟨ρa, kb, ρb, k1, k2, k3⟩ := turn
    refine tgt_w J3 r3 k1 fun σ4 J4 w4 => ⟨by rw [w4 _ fun j hj => hj]; exact wipe_again _ _, F3, H', [], F3, ρa, J4, kb, ρb, k2, fun H4 F4 x4 J5 => ?_⟩
    rcases k3 with ⟨rfl, key, z, z1, hl, z2⟩ | ⟨rfl, z2⟩
    · unfold kvOf at z1
      cases e3 : k ρb with
      | none => rw [e3] at z1; cases z1
      | some p3 =>
      obtain ⟨kd, ρc⟩ := p3
      rw [e3] at z1
      dsimp only at z1
      cases e4 : e ρc with
      | none => rw [e4] at z1; cases z1
      | some p4 =>
      obtain ⟨z', ρd⟩ := p4
      rw [e4] at z1
      dsimp only at z1
      cases e5 : fitB b kd with
      | none => rw [e5] at z1; cases z1
      | some key' =>
      rw [e5] at z1
      cases z1
      refine iteT ⟨F3, H', [], F4, ρb, J5, kd, ρc, e3, fun yv H5 F5 x5 J6 r6 => ⟨F3, H', [], F5, ρc, J6, z, ρd, e4, fun zv H6 F6 x6 J7 r7 => ?_⟩⟩
      have x36 : Ext F3 F6 := J7.f0
      have da6 : DicAt c.G.w b none F6 H6 p ks vs := da.keep (g3.f.trans x36) fun o z nt => by
        rw [hu2] at z; cases z
        exact J7.fr p _ hp3 (by simp) nt
      refine ⟨F6, b, ks, vs, dv, kd, z, key, J7.fh, da6, (rs.ext g3.f).ext x36, r6.ext x6, e5, r7, hl, fun u vs' du da' rs' => ?_⟩
      exact ⟨hlt, F6, _, vs', _, kept (keep_blk (B := []) J7 hp3 hpF3 du2.nt du2.nc), (x2.trans g3.f).trans x36, J7.n0 p _ hp3 hpF3, da', rs', z2⟩
    · refine iteF ⟨hlt, F4, ks, vs, dv, kept (keep_less J5.less ⟨_, J5.fr p _ hp3 (by simp) du2.nt⟩ (J5.n0 p _ hp3 hpF3)), (x2.trans g3.f).trans J5.f0, J5.n0 p _ hp3 hpF3, ?_, (rs.ext g3.f).ext J5.f0, z2⟩
      exact da.keep (g3.f.trans J5.f0) fun o z nt => by
        rw [hu2] at z; cases z
        exact J5.fr p _ hp3 (by simp) nt
  · rw [drop_nil' hlt] at l2
    unfold dLoop at l2
    cases l2
    have hi' : i = ds.length := by omega
    refine .inl ⟨by rw [hi']; exact y2, u2, hu2, du2.mut, fun od => ?_⟩
    have nt' : ∀ ps, HO.frz od u2 ≠ .tbl ps := fun ps z => by cases z
    have nc' : ∀ c q, HO.frz od u2 ≠ LamX.CodeO c q := fun c q z => by unfold LamX.CodeO at z; cases z
    have up : ∀ q v, q ≠ p → H2 q = some v → upd H2 p (.frz od u2) q = some v := fun q v n z => by rw [upd_ne n]; exact z
    have kp : Keep c.G.T [p] F2 H2 F2 (upd H2 p (.frz od u2)) := ⟨Ext.rfl', fun q v z => up q v (fun y => by rw [y, hpF2] at z; cases z) (I2.fh q v z), fun q v z n _ => up q v (fun y => n (List.mem_singleton.mpr y)) z, fun q v z => by
      by_cases y : q = p
      · subst y; exact ⟨_, upd_same⟩
      · exact ⟨v, up q v y z⟩, fun q v _ n => n, fun tb => ⟨tabs_upd tb.t hu2 du2.nt du2.nc, tb.n⟩⟩
    have I4 := I2.kept kp (fun q hq => by rw [List.mem_singleton.mp hq]; exact hp0) (fun q hq o ho => by rw [List.mem_singleton.mp hq, hu2] at ho; cases ho; exact du2.nl none) fun j s q h1 h2 h3 hq => apart j s q h1 h2 h3 (List.mem_singleton.mp hq)
    have ex : Ext F2 (upd F2 p (.frz od u2)) := Ext.upd hpF2
    exact q _ _ _ ((x1.trans x2).trans ex) (I4.sealO upd_same nt' (du2.nl (some od)) hpF2 hp0 apart) (.dct (od := od) (mk2 od _ _ ex upd_same) (rs.ext ex))
end
section
variable {c : Ctx} {X : Cx}
theorem ve_dc {kx vx tg iter : Expr} {ifs : List Expr} {scope : Scope} {own : List (Str × Nat)} {pos : Pos} {it : SI} {tt : SB} {k e : SE} (b : Bool) (t : Tg) (hw : X.w = c.G.w) (hu : X.A.units + 16 < cLine) (hc : X.calm = true) (hN : X.N.Nodup) (hi : PI X tg iter (vi c it)) (ok : BlkOk X.N X.env.scope scope own) (hix : own.map (·.2) = t.ix)
    (hg : ∀ (s : Shared) (H : Hp) (C : Addr) (cl : List (Str × Addr)) (fp : List Addr), PG (X.blk s H scope (compEnvC scope cl C X.env) fp) tg (gT X.K t))
    (ht : ∀ (s : Shared) (H : Hp) (C : Addr) (cl : List (Str × Addr)) (fp : List Addr) (F0 H0 : Hp) (B : List Addr), PTs (X.blk s H scope (compEnvC scope cl C X.env) fp) ifs (vb ⟨c.G, F0, H0, B⟩ tt))
    (hk : ∀ (s : Shared) (H : Hp) (C : Addr) (cl : List (Str × Addr)) (fp : List Addr) (F0 H0 : Hp) (B : List Addr), PE (X.blk s H scope (compEnvC scope cl C X.env) fp) kx (vt ⟨c.G, F0, H0, B⟩ k))
    (he : ∀ (s : Shared) (H : Hp) (C : Addr) (cl : List (Str × Addr)) (fp : List Addr) (F0 H0 : Hp) (B : List Addr), PE (X.blk s H scope (compEnvC scope cl C X.env) fp) vx (vt ⟨c.G, F0, H0, B⟩ e))
    (hs : ∀ x, foldedSetIterable iter X.env x = pure x := by intro _; rfl) : PE X (.DictComp kx vx [⟨tg, iter, ifs, 0⟩] scope pos) (vt c (sDc b it t tt k e)) :=
  pe_of (dcx_run (b := b) hc hN hi ok hg (fun s H C cl fp => pts_X (ht s H C cl fp)) (fun s H C cl fp => pe_X (hk s H C cl fp)) (fun s H C cl fp => pe_X (he s H C cl fp)) (fun s H C cl fp => put_dicB hw hu) hs) fun σ H Q q => by
    rw [hix]
    exact dcx_w hw σ H Q q
end
end VS

set_option Elab.async false
set_option linter.all false
set_option maxRecDepth 100000
set_option maxHeartbeats 4000000
namespace VS
open PySem PySem.Spec PyProof.Rows L2
/-! zip(tuple, list) -/
def ItzM (K : PySem.W.Frag) (a b : Addr) : It :=
  ⟨fun i H => ∃ (xs ys : List V) (x y : V), SqT K H a xs ∧ SqL K H b ys ∧ xs[i]? = some x ∧ ys[i]? = some y,
    fun i H v H' => ∃ T x y, v = .ref T ∧ H T = none ∧ H' = upd H T (.tup [x, y]) ∧ (∀ xs, SqT K H a xs → xs[i]? = some x) ∧ ∀ ys, SqL K H b ys → ys[i]? = some y,
    fun i H => ∃ xs ys : List V, SqT K H a xs ∧ SqL K H b ys ∧ ((i = xs.length ∧ i ≤ ys.length) ∨ (i = ys.length ∧ i ≤ xs.length))⟩
theorem sep_of {z TI TO i1 i2 a b : Addr} (D : ZipApart z TI TO i1 i2 a b) : ZipSep2 z TI TO i1 i2 [i1, a] [i2, b] where
  TIz := D.TIz
  TOz := D.TOz
  TITO := D.TITO
  TIi1 := D.TIi1
  mem1 := List.mem_cons_self
  zf1 := fun h => by rcases List.mem_cons.mp h with h | h; exact D.i1z h.symm; rw [List.mem_singleton] at h; exact D.l1z h.symm
  Tf1 := fun h => by rcases List.mem_cons.mp h with h | h; exact D.TOi1 h; rw [List.mem_singleton] at h; exact D.l1TO h.symm
  TIi2 := D.TIi2
  mem2 := List.mem_cons_self
  zf2 := fun h => by rcases List.mem_cons.mp h with h | h; exact D.i2z h.symm; rw [List.mem_singleton] at h; exact D.l2z h.symm
  Tf2 := fun h => by rcases List.mem_cons.mp h with h | h; exact D.TOi2 h; rw [List.mem_singleton] at h; exact D.l2TO h.symm
  sep1_2 := fun h => by rcases List.mem_cons.mp h with h | h; exact D.i12 h; rw [List.mem_singleton] at h; exact D.l2i1 h.symm
  sep2_1 := fun h => by rcases List.mem_cons.mp h with h | h; exact D.i12 h.symm; rw [List.mem_singleton] at h; exact D.l1i2 h.symm
def tnZM (a b z TI TO i1 i2 : Addr) (i : Nat) (h : Heap) : Prop := IsZip h z TI TO .none ∧ IsPair h TI (.ref i1) (.ref i2) ∧ (∃ x y, IsPair h TO x y) ∧ h.IsTupleIter i1 a i ∧ h.IsListIter i2 b i
theorem turn_zipM {P : Program} {w : World} {K : PySem.W.Frag} {elts : List Expr} {kk : Nat} {tpos : Pos} {a b z TI TO i1 i2 : Addr} (D : ZipApart z TI TO i1 i2 a b) :
    Turn P w K (.Tuple elts kk tpos) (ItzM K a b) [z, TI, TO, i1, i2] z (tnZM a b z TI TO i1 i2) where
  mem := List.mem_cons_self
  obj := by
    rintro i h ⟨hz, hTI, ⟨x, y, hTO⟩, ⟨o1, e1, _, d1⟩, ⟨o2, e2, _, d2⟩⟩ c hc
    simp only [List.mem_cons, List.not_mem_nil, or_false] at hc
    rcases hc with rfl | rfl | rfl | rfl | rfl
    · exact ⟨_, hz, by rintro v q; cases q⟩
    · exact ⟨_, hTI, by rintro v q; cases q⟩
    · exact ⟨_, hTO, by rintro v q; cases q⟩
    · exact ⟨o1, e1, by rintro v q; rw [d1] at q; cases q⟩
    · exact ⟨o2, e2, by rintro v q; rw [d2] at q; cases q⟩
  keep := by
    rintro i h h' ⟨hz, hTI, ⟨x, y, hTO⟩, h1, h2⟩ k
    exact ⟨k _ (by simp) _ hz, k _ (by simp) _ hTI, ⟨x, y, k _ (by simp) _ hTO⟩, h1.at (k i1 (by simp)), h2.at (k i2 (by simp))⟩
  item := by
    intro X hP hw hK hc i pins s σ H E I hf ⟨hz, hTI, ⟨x0, y0, hTO⟩, h1, h2⟩ ⟨xs, ys, x, y, qx, qy, hx, hy⟩
    subst hP; subst hw; subst hK
    obtain ⟨its, rv, p1, _⟩ := I.tuple qx
    obtain ⟨ws, rv2, p2, _⟩ := I.list qy
    obtain ⟨u, hu, ru⟩ := rv.get hx
    obtain ⟨u2, hu2, ru2⟩ := rv2.get hy
    have zl : z < s.heap.objs.size := Heap.lt_size hz
    have D1 := Draws.tuple (prog := X.prog) (w := X.w) (A := X.A.in1) (I.ok.hd hc) i1 a D.l1i1 its.toArray
    have D2 := Draws.list (prog := X.prog) (w := X.w) (A := X.A.in1) (I.ok.hd hc) i2 b D.l2i2 ws.toArray
    have lt1 : i < its.toArray.size := by rw [List.size_toArray]; exact (List.getElem?_eq_some_iff.mp hu).1
    have lt2 : i < ws.toArray.size := by rw [List.size_toArray]; exact (List.getElem?_eq_some_iff.mp hu2).1
    refine wpAny_pyNext_zipD2_item (sep_of D) D1 D2 hz hTI hTO ⟨h1, p1⟩ ⟨h2, p2.isList⟩ lt1 lt2 fun v1 v2 h' tk e1 e2 z' TO' s1 s2 hT sz kp => ?_
    have e1 : its[i]? = some v1 := by simpa using e1
    have e2 : ws[i]? = some v2 := by simpa using e2
    rw [hu] at e1
    rw [hu2] at e2
    cases e1
    cases e2
    refine ⟨_, rfl, wpAny_letOwnedTupleGo_zip (s := { s with heap := h', toks := tk }) z' fun h'' z'' sb => ?_⟩
    have gT : h''.get? s.heap.objs.size = some { cls := .type "tuple", data := .seq #[u, u2] } := (sb.2 _ (Nat.ne_of_gt zl)).trans hT
    have new : ObjOk X.prog X.w (upd H s.heap.objs.size (.tup [x, y])) h'' s.heap.objs.size (.tup [x, y]) := ⟨by show 2 ≤ sizeLine; decide, [u, u2], .cons ru (.cons ru2 .nil), ⟨_, gT, rfl, _, rfl⟩⟩
    have I1 : Inv X pins σ (upd H s.heap.objs.size (.tup [x, y])) { s with heap := h'', toks := tk } :=
      I.turnedNew (ch := [z, TI, TO, i1, i2]) (fun c o nb q => by
        simp only [List.mem_cons, List.not_mem_nil, or_false, not_or] at nb
        exact (sb.2 c nb.1).trans (kp c o nb.1 nb.2.2.1 nb.2.2.2.1 nb.2.2.2.2 q)) hf (Nat.le_refl _) new
    refine ⟨.ref s.heap.objs.size, _, I1, rfl, ⟨_, x, y, rfl, I.hok.fresh (Nat.le_refl _), rfl, fun l hl => by rw [I.tuple_inj hl qx]; exact hx, fun l hl => by rw [I.list_inj hl qy]; exact hy⟩, ⟨z'', ?_, ⟨u, u2, (sb.2 _ D.TOz).trans TO'⟩, s1.1.at fun o q => (sb.2 _ D.i1z).trans q, s2.1.at fun o q => (sb.2 _ D.i2z).trans q⟩, fun c hcm => ?_⟩
    · exact (sb.2 _ D.TIz).trans (kp _ _ D.TIz D.TITO D.TIi1 D.TIi2 hTI)
    · have lt : c < s.heap.objs.size := by
        obtain ⟨o1, g1, _⟩ := h1
        obtain ⟨o2, g2, _⟩ := h2
        simp only [List.mem_cons, List.not_mem_nil, or_false] at hcm
        rcases hcm with rfl | rfl | rfl | rfl | rfl
        · exact zl
        · exact Heap.lt_size hTI
        · exact Heap.lt_size hTO
        · exact Heap.lt_size g1
        · exact Heap.lt_size g2
      rw [upd_ne (Nat.ne_of_lt lt)]
      exact (hf c hcm).1
  done := by
    intro X hP hw hK hc i pins s σ H E I hf ⟨hz, hTI, ⟨x0, y0, hTO⟩, h1, h2⟩ ⟨xs, ys, qx, qy, en⟩
    subst hP; subst hw; subst hK
    obtain ⟨its, rv, p1, _⟩ := I.tuple qx
    obtain ⟨ws, rv2, p2, _⟩ := I.list qy
    have l1 := rv.length
    have l2 := rv2.length
    have D1 := Draws.tuple (prog := X.prog) (w := X.w) (A := X.A.in1) (I.ok.hd hc) i1 a D.l1i1 its.toArray
    have D2 := Draws.list (prog := X.prog) (w := X.w) (A := X.A.in1) (I.ok.hd hc) i2 b D.l2i2 ws.toArray
    refine wpAny_pyNext_zipD2_end (sep_of D) D1 D2 hz hTI hTO ⟨h1, p1⟩ ⟨h2, p2.isList⟩ ?_ ?_ ?_ fun h' tk kp => ⟨rfl, I.turnedL (ch := [z, TI, TO, i1, i2]) (fun c o nb q => ?_) hf⟩
    · rw [List.size_toArray]; omega
    · rw [List.size_toArray]; omega
    · rw [List.size_toArray, List.size_toArray]; omega
    · simp only [List.mem_cons, List.not_mem_nil, or_false, not_or] at nb
      exact kp c o nb.1 nb.2.2.1 nb.2.2.2.1 nb.2.2.2.2 q
  self := fun A i s Q E st h => wpAny_pyIter_zip st.1 h
def iZipM (K : PySem.W.Frag) (ta : TA) : TI := fun σ H R => ta σ H fun vs H1 => ∃ a b xs ys, vs = [.ref a, .ref b] ∧ SqT K H1 a xs ∧ SqL K H1 b ys ∧ R (ItzM K a b) H1
theorem pi_zipM {X : Cx} {e e2 : Expr} {ta : TA} {p pos tpos : Pos} {elts : List Expr} {kk : Nat} (hg : Gl X "zip") (hm : X.mg "zip" = none) (ha : PA X [e, e2] ta)
    (hs : starEach [e, e2] X.env = (false, eval e X.env) :: starEach [e2] X.env := by rfl) (hpl : (backTo pos (starEach [e2] X.env)).any (·.1) = false := by rfl) :
    PI X (.Tuple elts kk tpos) (.Call (.Name "zip" p) [e, e2] [] pos) (iZipM X.K ta) := by
  refine ⟨fun pins s σ H R I h => Call_ (ld_blt I hg hm PyProof.Rows.boot_zip (PyProof.Rows.callWith_type1 (thn (ha.run pos pins s σ H _ I h) fun us s1 ⟨vs, H1, I1, r1, a, b, xs, ys, ex, qx, qy, q⟩ => ?_) hs hpl))⟩
  subst ex
  cases r1 with
  | cons r rr =>
    cases rr with
    | cons r' rr =>
      cases rr; cases r; cases r'
      obtain ⟨its, rv, p1, _⟩ := I1.tuple qx
      obtain ⟨ws, rv2, p2, _⟩ := I1.list qy
      have la : a < s1.heap.objs.size := by obtain ⟨o, e, _⟩ := p1; exact Heap.lt_size e
      have lb : b < s1.heap.objs.size := p2.lt
      have apart := PySem.W.ktu_apart s1.heap.objs.size a b la lb
      refine zip_begins2 (begins_tuple a its.toArray) (begins_list b ws.toArray) p1 p2.isList fun h' hz hTI hTO g1 g2 sz kp => wpAny_pyIter_zip hz ?_
      have I2 : Inv X pins σ H1 { s1 with heap := h' } := I1.kept (t' := s1.toks) kp
      refine ⟨s1.heap.objs.size + 4, [s1.heap.objs.size + 4, s1.heap.objs.size + 2, s1.heap.objs.size + 3, s1.heap.objs.size, s1.heap.objs.size + 1], _, _, H1, rfl, I2, turn_zipM apart, ⟨hz, hTI, ⟨_, _, hTO⟩, ⟨_, g1, rfl, rfl⟩, ⟨_, g2, rfl, rfl⟩⟩, fun c hcm => ?_, q⟩
      have le : s1.heap.objs.size ≤ c := by
        simp only [List.mem_cons, List.not_mem_nil, or_false] at hcm
        rcases hcm with rfl | rfl | rfl | rfl | rfl <;> omega
      have n1 : H1 c = none := I1.hok.fresh le
      exact I1.fpOk le n1
section
variable {c : Ctx} {X : Cx}
def iZiM (a : SA) : SI := fun ρ => match a ρ with
  | some ([.tup xs, .lst ys], ρ') => some (zipD xs ys, ρ')
  | _ => none
theorem yields_zipM {K : PySem.W.Frag} {F0 : Hp} {a b : Addr} {us ws : List V} {ds es : List D} (h : F0 a = some (.tup us)) (r : Reps c.G F0 us ds) (h' : F0 b = some (.lst ws)) (r' : Reps c.G F0 ws es) : Yields c.G (ItzM K a b) F0 (zipD ds es) := by
  intro F H x e
  have ha : SqT K H a us := .of (e _ _ (x _ _ h))
  have hb : SqL K H b ws := .of (e _ _ (x _ _ h'))
  have l1 := r.length
  have l2 := r'.length
  refine ⟨fun i d hd => ?_, ⟨us, ws, ha, hb, by rw [zipD_length]; omega⟩⟩
  obtain ⟨d1, d2, k1, k2, ed⟩ := zipD_get hd
  subst ed
  obtain ⟨u, g1, g2⟩ := r.get k1
  obtain ⟨v, g3, g4⟩ := r'.get k2
  refine ⟨⟨us, ws, u, v, ha, hb, g1, g3⟩, fun y H' ⟨T, u', v', ey, hT, eH, k3, k4⟩ => ?_⟩
  subst ey; subst eH
  have e1 := k3 us ha
  have e2 := k4 ws hb
  rw [g1] at e1
  rw [g3] at e2
  cases e1; cases e2
  have g := Grow.new (o := .tup [u, v]) e hT
  exact ⟨_, g, .tup upd_same (.cons ((g2.ext x).ext g.f) (.cons ((g4.ext x).ext g.f) .nil))⟩
theorem vi_zipM {e e2 : Expr} {sa : SA} {p pos tpos : Pos} {elts : List Expr} {kk : Nat} (hm : X.mg "zip" = none) (ha : PA X [e, e2] (va c sa)) (hg : Gl X "zip" := by rfl)
    (hs : starEach [e, e2] X.env = (false, eval e X.env) :: starEach [e2] X.env := by rfl) (hpl : (backTo pos (starEach [e2] X.env)).any (·.1) = false := by rfl) :
    PI X (.Tuple elts kk tpos) (.Call (.Name "zip" p) [e, e2] [] pos) (vi c (iZiM sa)) :=
  pi_of (pi_zipM hg hm ha hs hpl) fun σ H R ⟨F, ρ, I, ds, ρ', e, q⟩ => by
    unfold iZiM at e
    split at e
    · rename_i xs ys ρ1 e1
      cases e
      refine ⟨F, ρ, I, _, ρ', e1, fun vs H1 F1 x1 I1 r1 => ?_⟩
      obtain ⟨v, v', ev, r, r'⟩ := reps2 r1
      cases r with
      | tup h1 rs =>
        cases r' with
        | lst h2 rs' => exact ⟨_, _, _, _, ev, .of (I1.fh _ _ h1), .of (I1.fh _ _ h2), q _ _ F1 x1 I1 (yields_zipM h1 rs h2 rs')⟩
    · cases e
/-! list(range(..)) -/
theorem reps_rg (G : Gx) (F : Hp) (a b : Int) : Reps G F (rgV a b) (rng a (b - a).toNat) := by
  unfold rgV rng
  generalize (b - a).toNat = n
  induction n with
  | zero => exact .nil
  | succ n ih => rw [List.range_succ, List.map_append, List.map_append]; exact ih.append (.one (.int _))
def rgOk (a b : Int) : Bool := decide (-(2 ^ 62) ≤ a ∧ a < 2 ^ 62 ∧ -(2 ^ 62) ≤ b ∧ b < 2 ^ 62 ∧ (b - a).toNat ≤ LN)
theorem rgOk_of {a b : Int} (h : rgOk a b = true) : RgOk a b := by
  obtain ⟨h1, h2, h3, h4, h5⟩ := of_decide_eq_true h
  exact ⟨h1, h2, h3, h4, Nat.le_trans h5 (by decide)⟩
def sLR1 (a : SE) : SE := fun ρ => match a ρ with
  | some (.int n, ρ') => if rgOk 0 n = true then some (.lst (rng 0 (n - 0).toNat), ρ') else none
  | _ => none
def sLR2 (a b : SE) : SE := fun ρ => match a ρ with
  | some (.int i, ρ1) => match b ρ1 with
    | some (.int j, ρ2) => if rgOk i j = true then some (.lst (rng i (j - i).toNat), ρ2) else none
    | _ => none
  | _ => none
theorem Rep.int_inv {G : Gx} {F : Hp} {v : V} {i : Int} (h : Rep G F v (.int i)) : v = .int i := by cases h; rfl
theorem ve_listRg1 {a : Expr} {sa : SE} {p p2 pos pos2 : Pos} (hc : X.calm = true) (hm : X.mg "list" = none) (hm2 : X.mg "range" = none) (ha : PE X a (vt c sa)) (hg : Gl X "list" := by rfl) (hg2 : Gl X "range" := by rfl)
    (na : starEach [a] X.env = (false, eval a X.env) :: starEach [] X.env := by rfl) (nb : starEach [(.Call (.Name "range" p2) [a] [] pos2)] X.env = (false, eval (.Call (.Name "range" p2) [a] [] pos2) X.env) :: starEach [] X.env := by rfl) :
    PE X (.Call (.Name "list" p) [.Call (.Name "range" p2) [a] [] pos2] [] pos) (vt c (sLR1 sa)) :=
  pe_of (pe_listRg hc hg hm (prg_1 hg2 hm2 ha na) nb) fun σ H Q ⟨F, ρ, I, d, ρ', e, q⟩ => by
    unfold sLR1 at e
    split at e
    · rename_i n ρ1 e1
      split at e
      · rename_i hk
        cases e
        refine ⟨F, ρ, I, _, ρ', e1, fun v H1 F1 x1 I1 r1 => ⟨n, r1.int_inv, rgOk_of hk, fun p hp => ?_⟩⟩
        have g := Grow.new (o := .lst (rgV 0 n)) I1.fh hp
        exact q _ _ _ (x1.trans g.f) (I1.grow g) (.lst upd_same (reps_rg _ _ _ _))
      · cases e
    · cases e
theorem ve_listRg2 {a b : Expr} {sa sb : SE} {p p2 pos pos2 : Pos} (hc : X.calm = true) (hm : X.mg "list" = none) (hm2 : X.mg "range" = none) (ha : PE X a (vt c sa)) (hb : PE X b (vt c sb)) (hg : Gl X "list" := by rfl) (hg2 : Gl X "range" := by rfl)
    (na : starEach [a, b] X.env = (false, eval a X.env) :: starEach [b] X.env := by rfl) (nb : starEach [(.Call (.Name "range" p2) [a, b] [] pos2)] X.env = (false, eval (.Call (.Name "range" p2) [a, b] [] pos2) X.env) :: starEach [] X.env := by rfl)
    (nc : starEach [b] X.env = (false, eval b X.env) :: starEach [] X.env := by rfl) (nd : (backTo pos2 (starEach [b] X.env)).any (·.1) = false := by rfl) :
    PE X (.Call (.Name "list" p) [.Call (.Name "range" p2) [a, b] [] pos2] [] pos) (vt c (sLR2 sa sb)) :=
  pe_of (pe_listRg hc hg hm (prg_2 hg2 hm2 ha hb na nc nd) nb) fun σ H Q ⟨F, ρ, I, d, ρ', e, q⟩ => by
    unfold sLR2 at e
    split at e
    · rename_i i ρ1 e1
      split at e
      · rename_i j ρ2 e2
        split at e
        · rename_i hk
          cases e
          refine ⟨F, ρ, I, _, ρ1, e1, fun v H1 F1 x1 I1 r1 => ⟨F1, ρ1, I1, _, ρ', e2, fun v2 H2 F2 x2 I2 r2 => ⟨i, j, r1.int_inv, r2.int_inv, rgOk_of hk, fun p hp => ?_⟩⟩⟩
          have g := Grow.new (o := .lst (rgV i j)) I2.fh hp
          exact q _ _ _ ((x1.trans x2).trans g.f) (I2.grow g) (.lst upd_same (reps_rg _ _ _ _))
        · cases e
      · cases e
    · cases e
/-! x.index(e) of a list of flat values -/
def ixF (b : D) : List D → Nat → Option Nat
  | [], _ => none
  | a :: r, i => if eqF a b = true then some i else ixF b r (i + 1)
def gIndex : D → D → Option D
  | .lst xs, b => if flatD b = true ∧ xs.all flatD = true then (ixF b xs 0).map fun i => .int (i : Nat) else none
  | _, _ => none
theorem ixF_at {b : D} : ∀ {xs : List D} {k i : Nat}, ixF b xs k = some i → ∃ j, i = k + j ∧ (∃ z, xs[j]? = some z ∧ eqF z b = true) ∧ ∀ (m : Nat) z, m < j → xs[m]? = some z → eqF z b = false
  | [], k, i, h => by unfold ixF at h; cases h
  | a :: r, k, i, h => by
    unfold ixF at h
    by_cases z : eqF a b = true
    · rw [if_pos z] at h; cases h
      exact ⟨0, rfl, ⟨a, rfl, z⟩, fun m z h => absurd h (Nat.not_lt_zero _)⟩
    · rw [if_neg z] at h
      obtain ⟨j, e, ⟨y, y1, y2⟩, y3⟩ := ixF_at h
      refine ⟨j + 1, by omega, ⟨y, by rw [List.getElem?_cons_succ]; exact y1, y2⟩, fun m w hm hw => ?_⟩
      cases m with
      | zero => rw [List.getElem?_cons_zero] at hw; cases hw; exact Bool.eq_false_iff.mpr z
      | succ m => rw [List.getElem?_cons_succ] at hw; exact y3 m w (by omega) hw
theorem ve_index {o e : Expr} {so s : SE} {apos cpos : Pos} (h : PE X o (vt c so)) (he : PE X e (vt c s)) (hbase : attributeBase o "index" X.env (eval o X.env) = eval o X.env := by rfl)
    (hfew : ((backTo cpos (starEach [e] X.env)).all (fun x => !x.1) && (backToKw cpos (keywordEach [] X.env)).all (fun x => x.1.isSome)
      && decide ([e].length + ([] : List Keyword).length + (if ([] : List Keyword).isEmpty then 0 else 1) < 30)) = true := by rfl)
    (hline : (apos.endLine == cpos.line) = true := by rfl) (hst : starEach [e] X.env = (false, eval e X.env) :: starEach [] X.env := by rfl) (hpl : (backTo cpos (starEach [] X.env)).any (·.1) = false := by rfl) :
    PE X (.Call (.Attribute o "index" apos) [e] [] cpos) (vt c (s2 gIndex so s)) :=
  pe_of (pe_bm PySem.F.plainAttrs_list PySem.F.slot_list_index PySem.F.type_list_index (id := "list.index") mt_index h (pa_cons he pa_nil hst) hbase hfew hline hst hpl) fun σ H Q ⟨F, ρ, I, d, ρ', e0, q⟩ => by
    obtain ⟨x, ρ1, y, e1, e2, e3⟩ := s2_inv e0
    unfold gIndex at e3
    split at e3
    · rename_i xs
      split at e3
      · rename_i hf
        cases e4 : ixF y xs 0 with
        | none => rw [e4] at e3; cases e3
        | some i =>
          rw [e4] at e3
          cases e3
          obtain ⟨j, ej, ⟨z, z1, z2⟩, z3⟩ := ixF_at e4
          refine ⟨F, ρ, I, _, ρ1, e1, fun v H1 F1 x1 I1 r1 => ?_⟩
          cases r1 with
          | lst h1 rs =>
            refine ⟨.inl ⟨rfl, _, .of (I1.fh _ _ h1)⟩, F1, ρ1, I1, y, ρ', e2, fun v2 H2 F2 x2 I2 r2 => ?_⟩
            obtain ⟨zv, y1, y2⟩ := rs.get z1
            have fl := hf.2
            refine ⟨_, _, v2, j, zv, rfl, rfl, .of (I2.fh _ _ (x2 _ _ h1)), flat_of r2 hf.1, flats_of rs fl, y1, ?_, fun m z' hm hz' => ?_, ?_⟩
            · rw [eqF_of (y2.ext x2) r2 (List.all_eq_true.mp fl z (List.mem_of_getElem? z1)) hf.1]; exact z2
            · obtain ⟨w, w1, w2⟩ : ∃ w, xs[m]? = some w ∧ Rep c.G F1 z' w := by
                have ml : m < xs.length := by
                  have := (List.getElem?_eq_some_iff.mp hz').1
                  rw [rs.length] at this
                  exact this
                exact ⟨xs[m], List.getElem?_eq_getElem ml, Reps.at rs hz' (List.getElem?_eq_getElem ml)⟩
              rw [eqF_of (w2.ext x2) r2 (List.all_eq_true.mp fl w (List.mem_of_getElem? w1)) hf.1]
              exact z3 m w hm w1
            · have := q (.int (j : Nat)) H2 F2 (x1.trans x2) I2
              rw [ej, Nat.zero_add] at *
              exact this (.int _)
      · cases e3
    · cases e3
end
end VS

set_option Elab.async false
set_option linter.all false
set_option maxRecDepth 100000
set_option maxHeartbeats 4000000
namespace VS
open PySem PySem.Spec PyProof.Rows L2
/-! operators that an own class defines, its methods and properties -/
/-- a method as its callers know it -/
structure CalO (P : Program) (w : World) (G : Gx) (mg : Str → Option Value) (base : Heap) (t : Nat) (x : Str) (k n : Nat) (m : Mir) : Prop where
  ex : ∃ (f : Addr) (fd : FuncData) (ps : List Str), PySem.W.findIn G.K (.ref (G.cls t)) x = some (some (.ref f)) ∧ PySem.W.isFn G.K (.ref f) = true ∧ PySem.W.keepIn G.K (.ref f) = true ∧ Binds G.K fd ps [] ∧ FnOk P w G.K mg base CX0 k f fd ps (spV G n m)
def isI (t : Nat) : D → Bool
  | .ins t' _ => t' == t
  | _ => false
theorem isI_inv {t : Nat} {d : D} (h : isI t d = true) : ∃ fs, d = .ins t fs := by
  cases d with
  | ins t' fs =>
    have h : (t' == t) = true := h
    rw [beq_iff_eq] at h
    subst h
    exact ⟨fs, rfl⟩
  | _ => cases h
theorem Rep.ins_at {G : Gx} {F : Hp} {v : V} {t : Nat} {fs : List D} (r : Rep G F v (.ins t fs)) : ∃ a dx us, v = .ref a ∧ F a = some (.ins (G.cls t) dx us) ∧ us.map (·.1) = G.fld t ∧ Reps G F (us.map (·.2)) fs := by
  generalize z : D.ins t fs = d at r
  cases r with
  | ins h n rs => cases z; exact ⟨_, _, _, rfl, h, n, rs⟩
  | _ => cases z
section
variable {c : Ctx} {X : Cx}
theorem relA {a : Addr} : L2.RelV (V.ref a) (Value.ref a) := rfl
/-- an instance, as the library knows it -/
theorem inst_at {pins : List (Addr × Obj)} {σ : L2.St} {H : Hp} {s : Shared} (I : Inv X pins σ H s) {a dx C : Addr} {us : List (Str × V)} (h : H a = some (.ins C dx us)) : ∃ od, PySem.W.InstAt s.heap a (PySem.W.instObj C dx) C (some od) := by
  obtain ⟨mA, J, _⟩ := ins_get I.hok h
  obtain ⟨od, J, _⟩ := J.look
  exact ⟨od, J⟩
/-- a call of a def's value from within a builtin -/
theorem run_at {A : Around} {k : Nat} {f : Addr} {fd : FuncData} {ps : List Str} {sp : Sp} {pins : List (Addr × Obj)} {σ : L2.St} {H : Hp} {s : Shared} {Q : VK} {us : List Value} {vs : List V} (F : FnOk X.prog X.w X.K X.mg X.base CX0 k f fd ps sp) (hr : Room k A) (hf : A.frames = X.A.frames) (hb : Binds X.K fd ps [])
    (I : Inv X pins σ H s) (r : Vals vs us) (h : sp vs H Q E0) : wpAny (model X.prog X.w) A (call (.ref f) us) (EP X pins σ Q) X.xe s := by
  have e0 : Env0 X.prog X.w X.K X.mg X.base A X.stack s H := by
    have e := I.env0
    exact ⟨by rw [hf]; exact e.frames, e.mod, e.bs, e.bsz, e.funs, e.frf, e.hok, e.bare⟩
  have hl : us.length = ps.length := by rw [← r.length]; exact F.len _ _ _ _ h
  have b := hb s us I.kIn (by rw [List.append_nil]; exact hl)
  rw [List.append_nil] at b
  refine wpAny_call (codeAny_mono (F.run A X.stack s H ⟨us, []⟩ us vs Q E0 hr e0 b r h) fun r s' hq => ?_)
  match r, hq with
  | .error e, hq => exact hq.elim
  | .ok .next, hq => exact False.elim hq
  | .ok .brk, hq => exact False.elim hq
  | .ok .cont, hq => exact False.elim hq
  | .ok (.ret u), hq => exact I.after hq
/-- the callee's promise, wished for by data -/
theorem sp_of {F H : Hp} {σ : L2.St} {ρ : Rho} {n : Nat} {m : Mir} {vs : List V} {ds : List D} {d : D} {out : List D} {Q : VK} (I : Ok c F H σ ρ) (r : Reps c.G F vs ds) (hn : ds.length = n) (hm : m (ds.map .val) = some (d, out))
    (q : ∀ v H' F', Ext F F' → Ok c F' H' σ ρ → Rep c.G F' v d → Q v H') : spV c.G n m vs H Q E0 :=
  ⟨F, [], ds.map .val, I.fh, I.tb, .vals r, by rw [List.length_map]; exact hn, d, out, hm, fun v H' F' kp _ rv => q v H' F' kp.f (keep_lift I kp) rv⟩
/-! x op y, x op= .., of instances of one class -/
def rMt2 (G : Gx) (t : Nat) (m : Mir) : R2 := fun x y H Q => (∃ a dx us, x = .ref a ∧ H a = some (.ins (G.cls t) dx us)) ∧ (∃ a dx us, y = .ref a ∧ H a = some (.ins (G.cls t) dx us)) ∧ spV G 2 m [x, y] H Q E0
theorem cmpBack_of {Q : Value → Shared → Prop} {v : V} {u : Value} {s : Shared} (r : L2.RelV v u) (q : Q u s) : PySem.W.CmpBack Q u s := by
  cases u with
  | notImplemented => cases v <;> cases r <;> contradiction
  | _ => exact q
variable {k t : Nat} {m : Mir} {x : Str}
theorem op_mt {op : Operator} (C : CalO X.prog X.w c.G X.mg X.base t x k 2 m) (hx : PySem.dunder op.info.2 = x) (hK : X.K = c.G.K) (sf : PySem.W.selfFirst X.K (c.G.cls t) = true) (hr : Room k X.A) : OpR X (binaryOp op) (rMt2 c.G t m) := by
  obtain ⟨f, fd, ps, h1, h2, h3, h4, h5⟩ := C.ex
  rw [← hK] at h1 h2 h4 h5
  intro pins s σ H x' y' v u Q I rx ry ⟨⟨a, dx, us, ea, ha⟩, ⟨b, dy, ws, eb, hb⟩, sp⟩
  subst ea; subst eb
  obtain rfl : v = Value.ref a := rx
  obtain rfl : u = Value.ref b := ry
  obtain ⟨od, J⟩ := inst_at I ha
  obtain ⟨od', J'⟩ := inst_at I hb
  obtain ⟨mm, hF⟩ := I.fr
  refine PySem.W.binop_K hF I.ok.mod.kin J J'.type sf (by rw [hx]; exact h1) h2 (wpAny_mono (run_at h5 hr rfl h4 I (.cons relA (.cons relA .nil)) sp) (fun w' s' z => ?_) fun _ _ z => z)
  obtain ⟨z', H', I', rz, qz⟩ := z
  exact cmpBack_of rz ⟨z', H', I', rz, qz⟩
theorem op_mtC {op : CmpOp} (C : CalO X.prog X.w c.G X.mg X.base t x k 2 m) (hop : ∀ a b, compareOp op a b = richCompare op a b) (hx : (cmpInfo op).2.1 = x) (hK : X.K = c.G.K) (hr : Room k X.A) : OpR X (compareOp op) (rMt2 c.G t m) := by
  obtain ⟨f, fd, ps, h1, h2, h3, h4, h5⟩ := C.ex
  rw [← hK] at h1 h2 h4 h5
  intro pins s σ H x' y' v u Q I rx ry ⟨⟨a, dx, us, ea, ha⟩, ⟨b, dy, ws, eb, hb⟩, sp⟩
  subst ea; subst eb
  obtain rfl : v = Value.ref a := rx
  obtain rfl : u = Value.ref b := ry
  obtain ⟨od, J⟩ := inst_at I ha
  obtain ⟨od', J'⟩ := inst_at I hb
  obtain ⟨mm, hF⟩ := I.fr
  rw [hop]
  refine PySem.W.cmp_K hr.units0 hF I.ok.mod.kin J J'.type (by simp [PySem.W.notFirst]) (by rw [hx]; exact h1) h2 (wpAny_mono (run_at h5 hr rfl h4 I (.cons relA (.cons relA .nil)) sp) (fun w' s' z => ?_) fun _ _ z => z)
  obtain ⟨z', H', I', rz, qz⟩ := z
  exact cmpBack_of rz ⟨z', H', I', rz, qz⟩
/-- by data: a first -/
def sMt2 (t : Nat) (m : Mir) (a b : SE) : SE := fun ρ => match a ρ with
  | some (x, ρ1) => match b ρ1 with
    | some (y, ρ2) => if isI t x = true ∧ isI t y = true then match m [.val x, .val y] with
      | some (d, _) => some (d, ρ2)
      | none => none
      else none
    | none => none
  | none => none
theorem mt2_w {sa sb : SE} (σ : L2.St) (H : Hp) (Q : VK) (h : vt c (sMt2 t m sa sb) σ H Q) : tOp (rMt2 c.G t m) (vt c sa) (vt c sb) σ H Q := by
  obtain ⟨F, ρ, I, d, ρ', e, q⟩ := h
  unfold sMt2 at e
  split at e
  · rename_i x ρ1 e1
    split at e
    · rename_i y ρ2 e2
      split at e
      · rename_i hi
        split at e
        · rename_i d' out e3
          cases e
          refine ⟨F, ρ, I, x, ρ1, e1, fun v H1 F1 x1 I1 r1 => ⟨F1, ρ1, I1, y, ρ', e2, fun u H2 F2 x2 I2 r2 => ?_⟩⟩
          obtain ⟨fs, ex⟩ := isI_inv hi.1
          obtain ⟨gs, ey⟩ := isI_inv hi.2
          have r1' := r1.ext x2
          have r2' := r2
          rw [ex] at r1'
          rw [ey] at r2'
          obtain ⟨a, dx, us, a1, a2, _⟩ := r1'.ins_at
          obtain ⟨b, dy, ws, b1, b2, _⟩ := r2'.ins_at
          exact ⟨⟨a, dx, us, a1, I2.fh _ _ a2⟩, ⟨b, dy, ws, b1, I2.fh _ _ b2⟩, sp_of I2 (ds := [x, y]) (.cons (r1.ext x2) (.cons r2 .nil)) rfl e3 fun v' H' F' x' I' r' => q v' H' F' ((x1.trans x2).trans x') I' r'⟩
        · cases e
      · cases e
    · cases e
  · cases e
variable {a b : Expr} {sa sb : SE} {pos : Pos}
theorem ve_mt2 {op : Operator} (C : CalO X.prog X.w c.G X.mg X.base t x k 2 m) (hx : PySem.dunder op.info.2 = x) (hK : X.K = c.G.K) (sf : PySem.W.selfFirst c.G.K (c.G.cls t) = true) (hr : Room k X.A) (ha : PE X a (vt c sa)) (hb : PE X b (vt c sb)) : PE X (.BinOp a op b pos) (vt c (sMt2 t m sa sb)) :=
  pe_of (pe_op (op_mt C hx hK (by rw [hK]; exact sf) hr) ha hb) fun _ _ _ h => mt2_w _ _ _ h
theorem ve_mt2C {op : CmpOp} (C : CalO X.prog X.w c.G X.mg X.base t x k 2 m) (hop : ∀ a b, compareOp op a b = richCompare op a b) (hx : (cmpInfo op).2.1 = x) (hK : X.K = c.G.K) (hr : Room k X.A) (ha : PE X a (vt c sa)) (hb : PE X b (vt c sb)) (hm : behindInMarks op b = false := by first | exact nomark _ | rfl) :
    PE X (.Compare a [op] [b] pos) (vt c (sMt2 t m sa sb)) :=
  pe_of (pe_cmpR (op_mtC C hop hx hK hr) ha hb hm) fun _ _ _ h => mt2_w _ _ _ h
theorem vt_mt2C {op : CmpOp} (C : CalO X.prog X.w c.G X.mg X.base t x k 2 m) (hop : ∀ a b, compareOp op a b = richCompare op a b) (hx : (cmpInfo op).2.1 = x) (hK : X.K = c.G.K) (hr : Room k X.A) (ha : PE X a (vt c sa)) (hb : PE X b (vt c sb)) (hm : behindInMarks op b = false := by first | exact nomark _ | rfl) :
    PT X (.Compare a [op] [b] pos) (vb c (sB (sMt2 t m sa sb))) :=
  pt_of (pt_cmpR (op_mtC C hop hx hK hr) ha hb hm) fun _ _ _ h => vb_test (fun _ => mt2_w _ _ _) h
/-! e in x, e not in x, x an instance whose __contains__ tells a bool -/
def rMtIn (G : Gx) (neg : Bool) (t : Nat) (m : Mir) : R2 := fun y x H Q => (∃ a dx us, x = .ref a ∧ H a = some (.ins (G.cls t) dx us)) ∧ spV G 2 m [x, y] H (fun v H' => ∃ b, v = .bl b ∧ Q (.bl (ngB neg b)) H') E0
theorem op_mtIn (neg : Bool) (C : CalO X.prog X.w c.G X.mg X.base t "__contains__" k 2 m) (hK : X.K = c.G.K) (hr : Room k X.A) : OpR X (compareOp (if neg = true then .NotIn else .In)) (rMtIn c.G neg t m) := by
  obtain ⟨f, fd, ps, h1, h2, h3, h4, h5⟩ := C.ex
  rw [← hK] at h1 h2 h4 h5
  intro pins s σ H y' x' u v Q I ry rx ⟨⟨a, dx, us, ea, ha⟩, sp⟩
  subst ea
  obtain rfl : v = Value.ref a := rx
  obtain ⟨od, J⟩ := inst_at I ha
  obtain ⟨mm, hF⟩ := I.fr
  have run := run_at h5 hr rfl h4 I (.cons relA (.cons ry .nil)) sp
  cases neg with
  | true =>
    refine PySem.W.notIn_K hF I.ok.mod.kin J h1 h2 (wpAny_mono run (fun w' s' z => ?_) fun _ _ z => z)
    obtain ⟨z', H', I', rz, b, eb, qz⟩ := z
    subst eb
    cases rz
    exact wpAny_truthy_bool ⟨.bl _, H', I', rfl, qz⟩
  | false =>
    refine PySem.W.in_K hF I.ok.mod.kin J h1 h2 (wpAny_mono run (fun w' s' z => ?_) fun _ _ z => z)
    obtain ⟨z', H', I', rz, b, eb, qz⟩ := z
    subst eb
    cases rz
    exact wpAny_truthy_bool ⟨.bl _, H', I', rfl, qz⟩
def sMtIn (neg : Bool) (t : Nat) (m : Mir) (a b : SE) : SE := fun ρ => match a ρ with
  | some (y, ρ1) => match b ρ1 with
    | some (x, ρ2) => if isI t x = true then match m [.val x, .val y] with
      | some (.bl r, _) => some (.bl (ngB neg r), ρ2)
      | _ => none
      else none
    | none => none
  | none => none
theorem Rep.bl_inv {G : Gx} {F : Hp} {v : V} {i : Bool} (h : Rep G F v (.bl i)) : v = .bl i := by cases h; rfl
theorem mtIn_w {neg : Bool} {sa sb : SE} (σ : L2.St) (H : Hp) (Q : VK) (h : vt c (sMtIn neg t m sa sb) σ H Q) : tOp (rMtIn c.G neg t m) (vt c sa) (vt c sb) σ H Q := by
  obtain ⟨F, ρ, I, d, ρ', e, q⟩ := h
  unfold sMtIn at e
  split at e
  · rename_i y ρ1 e1
    split at e
    · rename_i x ρ2 e2
      split at e
      · rename_i hi
        split at e
        · rename_i r out e3
          cases e
          refine ⟨F, ρ, I, y, ρ1, e1, fun v H1 F1 x1 I1 r1 => ⟨F1, ρ1, I1, x, ρ', e2, fun u H2 F2 x2 I2 r2 => ?_⟩⟩
          obtain ⟨fs, ex⟩ := isI_inv hi
          have r2' := r2
          rw [ex] at r2'
          obtain ⟨a, dx, us, a1, a2, _⟩ := r2'.ins_at
          exact ⟨⟨a, dx, us, a1, I2.fh _ _ a2⟩, sp_of I2 (ds := [x, y]) (.cons r2 (.cons (r1.ext x2) .nil)) rfl e3 fun v' H' F' x' I' r' => ⟨r, r'.bl_inv, q _ H' F' ((x1.trans x2).trans x') I' (.bl _)⟩⟩
        · cases e
      · cases e
    · cases e
  · cases e
theorem ve_mtIn (C : CalO X.prog X.w c.G X.mg X.base t "__contains__" k 2 m) (hK : X.K = c.G.K) (hr : Room k X.A) (ha : PE X a (vt c sa)) (hb : PE X b (vt c sb)) (hm : behindInMarks .In b = false := by first | exact nomark _ | rfl) : PE X (.Compare a [.In] [b] pos) (vt c (sMtIn false t m sa sb)) :=
  pe_of (pe_cmpR (op_mtIn false C hK hr) ha hb hm) fun _ _ _ h => mtIn_w _ _ _ h
theorem ve_mtNotIn (C : CalO X.prog X.w c.G X.mg X.base t "__contains__" k 2 m) (hK : X.K = c.G.K) (hr : Room k X.A) (ha : PE X a (vt c sa)) (hb : PE X b (vt c sb)) (hm : behindInMarks .NotIn b = false := by first | exact nomark _ | rfl) : PE X (.Compare a [.NotIn] [b] pos) (vt c (sMtIn true t m sa sb)) :=
  pe_of (pe_cmpR (op_mtIn true C hK hr) ha hb hm) fun _ _ _ h => mtIn_w _ _ _ h
theorem vt_mtIn (C : CalO X.prog X.w c.G X.mg X.base t "__contains__" k 2 m) (hK : X.K = c.G.K) (hr : Room k X.A) (ha : PE X a (vt c sa)) (hb : PE X b (vt c sb)) (hm : behindInMarks .In b = false := by first | exact nomark _ | rfl) : PT X (.Compare a [.In] [b] pos) (vb c (sB (sMtIn false t m sa sb))) :=
  pt_of (pt_cmpR (op_mtIn false C hK hr) ha hb hm) fun _ _ _ h => vb_test (fun _ => mtIn_w _ _ _) h
theorem vt_mtNotIn (C : CalO X.prog X.w c.G X.mg X.base t "__contains__" k 2 m) (hK : X.K = c.G.K) (hr : Room k X.A) (ha : PE X a (vt c sa)) (hb : PE X b (vt c sb)) (hm : behindInMarks .NotIn b = false := by first | exact nomark _ | rfl) : PT X (.Compare a [.NotIn] [b] pos) (vb c (sB (sMtIn true t m sa sb))) :=
  pt_of (pt_cmpR (op_mtIn true C hK hr) ha hb hm) fun _ _ _ h => vb_test (fun _ => mtIn_w _ _ _) h
/-! ~x, len(x), if x -/
def sMt1 (t : Nat) (m : Mir) (a : SE) : SE := fun ρ => match a ρ with
  | some (x, ρ1) => if isI t x = true then match m [.val x] with
    | some (d, _) => some (d, ρ1)
    | none => none
    else none
  | none => none
def rMt1 (G : Gx) (t : Nat) (m : Mir) : V → Hp → VK → Prop := fun x H Q => (∃ a dx us, x = .ref a ∧ H a = some (.ins (G.cls t) dx us)) ∧ spV G 1 m [x] H Q E0
theorem mt1_w {sa : SE} (σ : L2.St) (H : Hp) (Q : VK) (h : vt c (sMt1 t m sa) σ H Q) : vt c sa σ H fun x H1 => rMt1 c.G t m x H1 Q := by
  obtain ⟨F, ρ, I, d, ρ', e, q⟩ := h
  unfold sMt1 at e
  split at e
  · rename_i x ρ1 e1
    split at e
    · rename_i hi
      split at e
      · rename_i d' out e3
        cases e
        refine ⟨F, ρ, I, x, ρ', e1, fun v H1 F1 x1 I1 r1 => ?_⟩
        obtain ⟨fs, ex⟩ := isI_inv hi
        have r1' := r1
        rw [ex] at r1'
        obtain ⟨a, dx, us, a1, a2, _⟩ := r1'.ins_at
        exact ⟨⟨a, dx, us, a1, I1.fh _ _ a2⟩, sp_of I1 (ds := [x]) (.cons r1 .nil) rfl e3 fun v' H' F' x' I' r' => q v' H' F' (x1.trans x') I' r'⟩
      · cases e
    · cases e
  · cases e
theorem ve_mtInv (C : CalO X.prog X.w c.G X.mg X.base t "__invert__" k 1 m) (hK : X.K = c.G.K) (hr : Room k X.A) (ha : PE X a (vt c sa)) : PE X (.UnaryOp .Invert a pos) (vt c (sMt1 t m sa)) := by
  obtain ⟨f, fd, ps, h1, h2, h3, h4, h5⟩ := C.ex
  rw [← hK] at h1 h2 h4 h5
  refine pe_of (pe_un (r := rMt1 c.G t m) (fun pins s σ H x v Q I rx ⟨⟨a, dx, us, ea, ha⟩, sp⟩ => ?_) ha) fun σ H Q h => mt1_w σ H Q h
  subst ea
  obtain rfl : v = Value.ref a := rx
  obtain ⟨od, J⟩ := inst_at I ha
  obtain ⟨mm, hF⟩ := I.fr
  exact PySem.W.ksp_inv hF I.ok.mod.kin J h1 h2 (run_at h5 hr rfl h4 I (.cons relA .nil) sp)
/-- as a test -/
theorem vt_mtB {e : Expr} {s : SE} (C : CalO X.prog X.w c.G X.mg X.base t "__bool__" k 1 m) (hK : X.K = c.G.K) (hr : Room k X.A) (ha : PE X e (vt c s)) (he : ∀ whole, isTrue e X.env whole = (do let v ← whole; standAt e.pos; holding [v] (truthy v)) := by intro _; rfl) :
    PT X e (vb c (sB (sMt1 t m s))) := by
  obtain ⟨f, fd, ps, h1, h2, h3, h4, h5⟩ := C.ex
  rw [← hK] at h1 h2 h4 h5
  refine ⟨fun pins sh σ H Q I h => ?_⟩
  obtain ⟨F, ρ, J, b, ρ', e1, q⟩ := h
  have e2 := sB_inv e1
  have w := mt1_w (c := c) σ H (fun v H' => ∃ b, v = .bl b ∧ Q b H') ⟨F, ρ, J, _, ρ', e2, fun v H' F' x' J' r' => ⟨b, r'.bl_inv, q H' F' x' J'⟩⟩
  refine isTrue_plain (thn (ha.run pins sh σ H _ I w) fun u s1 ⟨v, H1, I1, r1, ⟨a, dx, us, ea, hA⟩, sp⟩ => ?_) (he _)
  subst ea
  obtain rfl : u = Value.ref a := r1
  obtain ⟨od, J1⟩ := inst_at I1 hA
  obtain ⟨mm, hF⟩ := I1.fr
  refine PySem.W.truthy_K hF I1.ok.mod.kin J1 h1 h2 (wpAny_mono (run_at h5 hr rfl h4 I1 (.cons relA .nil) sp) (fun w' s' z => ?_) fun _ _ z => z)
  obtain ⟨z', H', I', rz, b', eb, qz⟩ := z
  subst eb
  cases rz
  exact ⟨H', I', qz⟩
/-- len(x) -/
def sLenO (t : Nat) (m : Mir) (a : SE) : SE := fun ρ => match sMt1 t m a ρ with
  | some (.int n, ρ1) => if 0 ≤ n ∧ n < 2 ^ 62 then some (.int n, ρ1) else none
  | _ => none
theorem ve_lenO {p : Pos} (C : CalO X.prog X.w c.G X.mg X.base t "__len__" k 1 m) (hK : X.K = c.G.K) (hr : Room (k + 1) X.A) (hm : X.mg "len" = none) (ha : PE X a (vt c sa)) (hg : Gl X "len" := by rfl) (he : starEach [a] X.env = (false, eval a X.env) :: starEach [] X.env := by rfl) (hpl : (backTo pos (starEach [] X.env)).any (·.1) = false := by rfl) :
    PE X (.Call (.Name "len" p) [a] [] pos) (vt c (sLenO t m sa)) := by
  obtain ⟨f, fd, ps, h1, h2, h3, h4, h5⟩ := C.ex
  rw [← hK] at h1 h2 h4 h5
  have rule : CallR X (.builtin "len") (fun xs H Q => ∃ x, xs = [x] ∧ rMt1 c.G t m x H fun v H' => ∃ n : Int, v = .int n ∧ 0 ≤ n ∧ n < 2 ^ 63 ∧ Q (.int n) H') := by
    intro pins s σ H xs us Q I r ⟨x, ex, ⟨aa, dx, ws, ea, hA⟩, sp⟩
    subst ex; subst ea
    cases r with
    | cons r1 rr =>
      cases rr
      rename_i u
      obtain rfl : u = Value.ref aa := r1
      obtain ⟨od, J⟩ := inst_at I hA
      obtain ⟨mm, hF⟩ := I.fr
      refine PySem.W.len_K hF I.ok.mod.kin J h1 h2 (wpAny_mono (run_at h5 hr.in1 rfl h4 I (.cons relA .nil) sp) (fun w' s' z => ?_) fun _ _ z => z)
      obtain ⟨z', H', I', rz, n, en, n0, n1, qz⟩ := z
      subst en
      obtain ⟨tk, rfl⟩ := rz
      exact ⟨⟨n0, n1⟩, .int n, H', I'.tok _, ⟨_, rfl⟩, qz⟩
  refine pe_of (pe_callB rule hg hm (by rfl) (pa_cons ha pa_nil he) (he := he) (hpl := hpl)) fun σ H Q ⟨F, ρ, I, d, ρ', e0, q⟩ => ?_
  unfold sLenO at e0
  split at e0
  · rename_i n ρ1 e1
    split at e0
    · rename_i hn
      cases e0
      have w := mt1_w (c := c) (t := t) (m := m) (sa := sa) σ H (fun v H' => ∃ n : Int, v = .int n ∧ 0 ≤ n ∧ n < 2 ^ 63 ∧ Q (.int n) H') ⟨F, ρ, I, _, ρ', e1, fun v H' F' x' J' r' => ⟨n, r'.int_inv, hn.1, by omega, q _ H' F' x' J' (.int n)⟩⟩
      obtain ⟨F0, ρ0, I0, d0, ρ0', k1, k2⟩ := w
      exact ⟨F0, ρ0, I0, d0, ρ0', k1, fun v H' F' x' J' r' => ⟨v, rfl, k2 v H' F' x' J' r'⟩⟩
    · cases e0
  · cases e0
/-! x.m(e, ..), x.p -/
def sMeth (t n : Nat) (m : Mir) (o : SE) (a : SA) : SE := fun ρ => match o ρ with
  | some (x, ρ1) => match a ρ1 with
    | some (xs, ρ2) => if isI t x = true ∧ xs.length + 1 = n then match m (.val x :: xs.map .val) with
      | some (d, _) => some (d, ρ2)
      | none => none
      else none
    | none => none
  | none => none
theorem lookup_none {f : Str} : ∀ {fs : List (Str × V)}, look f (fs.map (·.1)) = none → fs.lookup f = none
  | [], _ => rfl
  | (g, v) :: r, h => by
    rw [List.map_cons] at h
    unfold look at h
    by_cases z : f = g
    · rw [if_pos z] at h; cases h
    · rw [if_neg z] at h
      rw [List.lookup_cons, beq_false_of_ne z]
      exact lookup_none (by cases y : look f (r.map (·.1)) with
        | none => rfl
        | some j => rw [y] at h; cases h)
theorem meth_w {f : Addr} {n : Nat} {so : SE} {sa : SA} (hl : look x (c.G.fld t) = none) (σ : L2.St) (H : Hp) (Q : VK) (h : vt c (sMeth t n m so sa) σ H Q) : tMeth (c.G.cls t) x (spV c.G n m) [] E0 (vt c so) (va c sa) σ H Q := by
  obtain ⟨F, ρ, I, d, ρ', e, q⟩ := h
  unfold sMeth at e
  split at e
  · rename_i o ρ1 e1
    split at e
    · rename_i xs ρ2 e2
      split at e
      · rename_i hi
        split at e
        · rename_i d' out e3
          cases e
          refine ⟨F, ρ, I, o, ρ1, e1, fun v H1 F1 x1 I1 r1 => ?_⟩
          obtain ⟨fs, ex⟩ := isI_inv hi.1
          have r1' := r1
          rw [ex] at r1'
          obtain ⟨a, dx, us, a1, a2, a3, _⟩ := r1'.ins_at
          refine ⟨a, dx, us, a1, I1.fh _ _ a2, lookup_none (by rw [a3]; exact hl), F1, ρ1, I1, xs, ρ', e2, fun vs H2 F2 x2 I2 r2 => ?_⟩
          show spV c.G n m (v :: (vs ++ [])) H2 Q E0
          rw [List.append_nil]
          exact sp_of I2 (ds := o :: xs) (.cons (r1.ext x2) r2) (by rw [List.length_cons]; exact hi.2) e3 fun v' H' F' x' I' r' => q v' H' F' ((x1.trans x2).trans x') I' r'
        · cases e
      · cases e
    · cases e
  · cases e
theorem ve_meth {o e : Expr} {es : List Expr} {apos : Pos} {so : SE} {sa : SA} {n : Nat} {pl : Sem Bool} (C : CalO X.prog X.w c.G X.mg X.base t x k n m) (hK : X.K = c.G.K) (cl : Cls c.G.K (c.G.cls t)) (hl : look x (c.G.fld t) = none) (hr : Room k X.A) (ho : PE X o (vt c so)) (ha : PA X (e :: es) (va c sa))
    (hst : starEach (e :: es) X.env = (false, eval e X.env) :: starEach es X.env := by rfl) (hpl : (backTo pos (starEach es X.env)).any (·.1) = false := by rfl)
    (ht : eval (.Call (.Attribute o x apos) (e :: es) [] pos) X.env = (do
      let ov ← eval o X.env
      standAt apos.atName
      let (f, first) ← holding [ov] (getMethod ov x pl)
      callWith pos f first (backTo pos (starEach (e :: es) X.env)) (backToKw pos (keywordEach [] X.env))) := by rfl) :
    PE X (.Call (.Attribute o x apos) (e :: es) [] pos) (vt c (sMeth t n m so sa)) := by
  obtain ⟨f, fd, ps, h1, h2, h3, h4, h5⟩ := C.ex
  rw [← hK] at h1 h2 h3 h4 h5 cl
  exact pe_of (pe_meth (ds := []) (dvs := []) ho cl ⟨h1, h2, h3⟩ h5 hr h4 .nil pass0 ha hst hpl ht) fun σ H Q h => meth_w (f := f) hl σ H Q h
theorem ve_meth0 {o : Expr} {apos : Pos} {so : SE} {n : Nat} {pl : Sem Bool} (C : CalO X.prog X.w c.G X.mg X.base t x k n m) (hK : X.K = c.G.K) (cl : Cls c.G.K (c.G.cls t)) (hl : look x (c.G.fld t) = none) (hr : Room k X.A) (ho : PE X o (vt c so))
    (ht : eval (.Call (.Attribute o x apos) [] [] pos) X.env = (do
      let ov ← eval o X.env
      standAt apos.atName
      let (f, first) ← holding [ov] (getMethod ov x pl)
      callWith pos f first (backTo pos (starEach [] X.env)) (backToKw pos (keywordEach [] X.env))) := by rfl) :
    PE X (.Call (.Attribute o x apos) [] [] pos) (vt c (sMeth t n m so aN)) := by
  obtain ⟨f, fd, ps, h1, h2, h3, h4, h5⟩ := C.ex
  rw [← hK] at h1 h2 h3 h4 h5 cl
  refine pe_of (pe_meth0 (ds := []) (dvs := []) ho cl ⟨h1, h2, h3⟩ h5 hr h4 .nil pass0 ht) fun σ H Q h => ?_
  obtain ⟨F, ρ, I, d, ρ', e1, q⟩ := meth_w (f := f) hl σ H Q h
  refine ⟨F, ρ, I, d, ρ', e1, fun v H' F' x' J' r' => ?_⟩
  obtain ⟨a, dx, fs, z1, z2, z3, F2, ρ2, J2, xs, ρ3, z4, z5⟩ := q v H' F' x' J' r'
  cases z4
  exact ⟨a, dx, fs, z1, z2, z3, z5 [] H' F2 Ext.rfl' J2 .nil⟩
/-- a property, as its readers know it -/
structure CalP (P : Program) (w : World) (G : Gx) (mg : Str → Option Value) (base : Heap) (t : Nat) (x : Str) (k : Nat) (m : Mir) : Prop where
  ex : ∃ (p g : Addr) (fd : FuncData) (ps : List Str), PropOf G.K (G.cls t) x p g ∧ Binds G.K fd ps [] ∧ FnOk P w G.K mg base CX0 k g fd ps (spV G 1 m)
theorem ve_prop {e : Expr} {s : SE} (C : CalP X.prog X.w c.G X.mg X.base t x k m) (hK : X.K = c.G.K) (cl : Cls c.G.K (c.G.cls t)) (hr : Room (k + 1) X.A) (he : PE X e (vt c s)) (hab : attributeBase e x X.env (eval e X.env) = eval e X.env := by rfl) :
    PE X (.Attribute e x pos) (vt c (sMt1 t m s)) := by
  obtain ⟨p, g, fd, ps, h1, h4, h5⟩ := C.ex
  rw [← hK] at h1 h4 h5 cl
  refine pe_of (pe_prop (ds := []) (dvs := []) he cl h1 h5 hr h4 .nil pass0 hab) fun σ H Q h => ?_
  obtain ⟨F, ρ, I, d, ρ', e1, q⟩ := mt1_w σ H Q h
  refine ⟨F, ρ, I, d, ρ', e1, fun v H' F' x' J' r' => ?_⟩
  obtain ⟨⟨a, dx, us, ea, ha⟩, sp⟩ := q v H' F' x' J' r'
  subst ea
  exact ⟨a, dx, us, rfl, ha, sp⟩
end
end VS

set_option Elab.async false
set_option linter.all false
set_option maxRecDepth 100000
set_option maxHeartbeats 4000000
namespace VS
open PySem PySem.Spec PyProof.Rows L2
/-! x != y by an own __eq__ -/
section
variable {prog : Program} {w : World} {A : Around} {E : Value → Shared → Prop} {s : Shared} {K : PySem.W.Frag} {x y C f : Addr} {ox : Obj} {od : Option Obj}
/-- the class leaves != to object -/
structure NeO (K : PySem.W.Frag) (C : Addr) : Prop where
  ne : PySem.W.findIn K (.ref C) "__ne__" = some (some (.builtin "object.__ne__"))
  ob : PySem.W.subIn K (.ref C) (.type "object") = some true
theorem ne_body {Q : Fin → Shared → Prop} (room : A.units < cLine) (X : K.In s.heap) (I : PySem.W.InstAt s.heap x ox C od) (hs : PySem.W.findIn K (.ref C) "__eq__" = some (some (.ref f))) (hf : PySem.W.isFn K (.ref f) = true)
    (h : wpAny (model prog w) A (call (.ref f) [.ref x, .ref y]) (fun v s' => ∃ b, v = .bool b ∧ Q (.done (.ret (.bool (!b)))) s') E s) :
    wpAny (model prog w) A (Builtin.«object.__ne__» ⟨[.ref x, .ref y], []⟩) Q E s := by
  unfold Builtin.«object.__ne__»
  have asked := PySem.W.ifBound_K (M := model prog w) (A := A) (E := E) (args := [.ref y]) (Q := fun r s' => ∃ b, r = some (.bool b) ∧ Q (.done (.ret (.bool (!b)))) s') X I hs hf (wpAny_mono h (fun v s' ⟨b, e, q⟩ => ⟨b, by rw [e], q⟩) fun _ _ z => z)
  repeat (first | with_reducible refine wpAny_cRoomFor room ?_ | (refine wpAny_bind (m := callSpecialIfBound? (.ref x) (Str.ofString "__eq__") [.ref y]) (wpAny_mono asked (fun r s' ⟨b, e, q⟩ => by subst e; (repeat (first | exact q | exact wpAny_pure q | (refine wpAny_bind (m := truthy (.bool _)) (wpAny_truthy_bool ?_)) | wp_step))) fun _ _ z => z)) | wp_step)
theorem ne_own {Q : Value → Shared → Prop} (room : A.units + 1 < cLine) (X : K.In s.heap) (I : PySem.W.InstAt s.heap x ox C od) {oy : Obj} {ody : Option Obj} (J : PySem.W.InstAt s.heap y oy C ody) (n : NeO K C) (hs : PySem.W.findIn K (.ref C) "__eq__" = some (some (.ref f))) (hf : PySem.W.isFn K (.ref f) = true)
    (h : wpAny (model prog w) A.in1 (call (.ref f) [.ref x, .ref y]) (fun v s' => ∃ b, v = .bool b ∧ Q (.bool (!b)) s') E s) :
    wpAny (model prog w) A (richCompare .NotEq (.ref x) (.ref y)) Q E s := by
  have S := F.cmp_object.ne
  have hi : PySem.W.Looks (model prog w) s.heap (isInstance (.ref x) (.type "object")) true := I.type.andThen (PySem.W.looks_subIn X n.ob)
  have body : wpAny (model prog w) A (call (.builtin "object.__ne__") [.ref x, .ref y]) (fun v s' => ∃ b, v = .bool b ∧ Q v s') E s :=
    wpAny_call (codeAny_call_builtin S.plain F.cmpEntry_ne (PySem.W.check_slot F.cmpKind_ne F.cmpSplit_ne hi (F.cmpArgs_ne _ _) (ne_body (A := A.in1) room X I hs hf (wpAny_mono h (fun v s' ⟨b, e, q⟩ => ⟨b, e, ⟨_, rfl, q⟩⟩) fun _ _ z => z))))
  have tried : wpAny (model prog w) A (tryCompare (.ref x) "__ne__" (.ref y)) (fun r s' => ∃ b, r = some (.bool b) ∧ Q (.bool b) s') E s := by
    unfold tryCompare callSpecialIfBound? bindSpecialIfBound?
    refine wpAny_bind (wpAny_holding (wpAny_bind (wpAny_bind (wpAny_bind (I.type.here ((PySem.W.looks_findIn X n.ne).here ?_))))))
    dsimp only
    simp only [S.bind]
    refine wpAny_bind (wpAny_askSetting (wpAny_ite ?_))
    have last : wpAny (model prog w) A (call (.builtin "object.__ne__") ([.ref x] ++ [.ref y]) >>= fun v => pure (some v)) (fun r s' => wpAny (model prog w) A (match r with | some .notImplemented | none => pure none | some v => pure (some v)) (fun r s' => ∃ b, r = some (.bool b) ∧ Q (.bool b) s') E s') E s :=
      wpAny_bind (wpAny_mono body (fun v s' ⟨b, e, q⟩ => by subst e; exact wpAny_pure (wpAny_pure ⟨b, rfl, q⟩)) fun _ _ z => z)
    split
    · exact wpAny_bind (wpAny_pure (wpAny_pure last))
    · exact wpAny_tryCatch (wpAny_bind (wpAny_pure (wpAny_pure last)))
  unfold richCompare
  simp only [oneThing_ref]
  refine wpAny_holding (wpAny_bind (wpAny_cRoomFor (Nat.lt_of_succ_lt room) (wpAny_bind (I.type.here (wpAny_bind (J.type.here ?_))))))
  simp only [bne_self_eq_false, Bool.false_eq_true, if_false]
  refine wpAny_bind (wpAny_pure ?_)
  simp only [Bool.false_eq_true, if_false]
  refine wpAny_bind (wpAny_mono tried (fun r s' ⟨b, e, q⟩ => ?_) fun _ _ z => z)
  subst e
  exact wpAny_pure q
end
/-- != of two instances of one class -/
def rNeO (G : Gx) (t : Nat) (m : Mir) : R2 := fun x y H Q => (∃ a dx us, x = .ref a ∧ H a = some (.ins (G.cls t) dx us)) ∧ (∃ a dx us, y = .ref a ∧ H a = some (.ins (G.cls t) dx us)) ∧ spV G 2 m [x, y] H (fun v H' => ∃ b, v = .bl b ∧ Q (.bl (!b)) H') E0
section
variable {c : Ctx} {X : Cx} {k t : Nat} {m : Mir}
theorem op_neO (C : CalO X.prog X.w c.G X.mg X.base t "__eq__" k 2 m) (n : NeO c.G.K (c.G.cls t)) (hK : X.K = c.G.K) (hr : Room (k + 1) X.A) : OpR X (compareOp .NotEq) (rNeO c.G t m) := by
  obtain ⟨f, fd, ps, h1, h2, h3, h4, h5⟩ := C.ex
  rw [← hK] at h1 h2 h4 h5 n
  intro pins s σ H x' y' v u Q I rx ry ⟨⟨a, dx, us, ea, ha⟩, ⟨b, dy, ws, eb, hb⟩, sp⟩
  subst ea; subst eb
  obtain rfl : v = Value.ref a := rx
  obtain rfl : u = Value.ref b := ry
  obtain ⟨od, J⟩ := inst_at I ha
  obtain ⟨od', J'⟩ := inst_at I hb
  have un := hr.units
  refine PySem.W.cmp_ofNotEq (ne_own (by omega) I.kIn J J' n h1 h2 (wpAny_mono (run_at h5 hr.in1 rfl h4 I (.cons relA (.cons relA .nil)) sp) (fun w' s' z => ?_) fun _ _ z => z))
  obtain ⟨z', H', I', rz, q, eq, qz⟩ := z
  subst eq
  cases rz
  exact ⟨q, rfl, .bl _, H', I', rfl, qz⟩
def sNeO (t : Nat) (m : Mir) (a b : SE) : SE := fun ρ => match sMt2 t m a b ρ with
  | some (.bl r, ρ') => some (.bl (!r), ρ')
  | _ => none
theorem neO_w {sa sb : SE} (σ : L2.St) (H : Hp) (Q : VK) (h : vt c (sNeO t m sa sb) σ H Q) : tOp (rNeO c.G t m) (vt c sa) (vt c sb) σ H Q := by
  obtain ⟨F, ρ, I, d, ρ', e, q⟩ := h
  unfold sNeO at e
  split at e
  · rename_i r ρ1 e1
    cases e
    exact mt2_w σ H (fun v H' => ∃ b, v = .bl b ∧ Q (.bl (!b)) H') ⟨F, ρ, I, _, ρ', e1, fun v H' F' x' J' r' => ⟨r, r'.bl_inv, q _ H' F' x' J' (.bl _)⟩⟩
  · cases e
theorem ve_neO {a b : Expr} {sa sb : SE} {pos : Pos} (C : CalO X.prog X.w c.G X.mg X.base t "__eq__" k 2 m) (n : NeO c.G.K (c.G.cls t)) (hK : X.K = c.G.K) (hr : Room (k + 1) X.A) (ha : PE X a (vt c sa)) (hb : PE X b (vt c sb)) (hm : behindInMarks .NotEq b = false := by first | exact nomark _ | rfl) :
    PE X (.Compare a [.NotEq] [b] pos) (vt c (sNeO t m sa sb)) :=
  pe_of (pe_cmpR (op_neO C n hK hr) ha hb hm) fun _ _ _ h => neO_w _ _ _ h
theorem vt_neO {a b : Expr} {sa sb : SE} {pos : Pos} (C : CalO X.prog X.w c.G X.mg X.base t "__eq__" k 2 m) (n : NeO c.G.K (c.G.cls t)) (hK : X.K = c.G.K) (hr : Room (k + 1) X.A) (ha : PE X a (vt c sa)) (hb : PE X b (vt c sb)) (hm : behindInMarks .NotEq b = false := by first | exact nomark _ | rfl) :
    PT X (.Compare a [.NotEq] [b] pos) (vb c (sB (sNeO t m sa sb))) :=
  pt_of (pt_cmpR (op_neO C n hK hr) ha hb hm) fun _ _ _ h => vb_test (fun _ => neO_w _ _ _) h
end
end VS

set_option Elab.async false
set_option linter.all false
set_option maxRecDepth 100000
set_option maxHeartbeats 4000000
namespace VS
open PySem PySem.Spec PyProof.Rows L2
/-! == of tuples whose items are instances with an own __eq__, all of them equal -/
theorem Keep.trans {T : List (Addr × Str)} {F H F1 H1 F2 H2 : Hp} (a : Keep T [] F H F1 H1) (b : Keep T [] F1 H1 F2 H2) : Keep T [] F H F2 H2 :=
  ⟨a.f.trans b.f, b.fh, fun p o h n nt => b.h p o (a.h p o h n nt) n nt, fun p o h => let ⟨o', e⟩ := a.a p o h; b.a p o' e, fun p o h n => let ⟨o', e⟩ := a.a p o h; b.n p o' e (a.n p o h n), fun t => b.t (a.t t)⟩
theorem Keep.same {T : List (Addr × Str)} {F H : Hp} (e : Ext F H) : Keep T [] F H F H := ⟨Ext.rfl', e, fun _ _ h _ _ => h, fun p o h => ⟨o, h⟩, fun _ _ _ n => n, id⟩
def eqAll (t : Nat) (m : Mir) : List D → List D → Bool
  | [], [] => true
  | a :: r, b :: r' => isI t a && isI t b && (match m [.val a, .val b] with | some (.bl true, _) => true | _ => false) && eqAll t m r r'
  | _, _ => false
theorem eqAll_at {t : Nat} {m : Mir} : ∀ {xs ys : List D}, eqAll t m xs ys = true → xs.length = ys.length ∧ ∀ (i : Nat) a b, xs[i]? = some a → ys[i]? = some b → isI t a = true ∧ isI t b = true ∧ ∃ out, m [.val a, .val b] = some (.bl true, out)
  | [], [], _ => ⟨rfl, fun i a b h => by simp at h⟩
  | a :: r, b :: r', h => by
    unfold eqAll at h
    obtain ⟨h1, h2⟩ := Bool.and_eq_true_iff.mp h
    obtain ⟨h1, h3⟩ := Bool.and_eq_true_iff.mp h1
    obtain ⟨h1, h4⟩ := Bool.and_eq_true_iff.mp h1
    obtain ⟨l, k⟩ := eqAll_at h2
    refine ⟨by rw [List.length_cons, List.length_cons, l], fun i x y e1 e2 => ?_⟩
    cases i with
    | zero =>
      rw [List.getElem?_cons_zero] at e1 e2
      cases e1; cases e2
      refine ⟨h1, h4, ?_⟩
      split at h3
      · rename_i out e; exact ⟨out, e⟩
      · cases h3
    | succ i => rw [List.getElem?_cons_succ] at e1 e2; exact k i x y e1 e2
  | [], _ :: _, h => by cases h
  | _ :: _, [], h => by cases h
section
variable {c : Ctx} {X : Cx} {k t : Nat} {m : Mir}
def rTupO (G : Gx) (t : Nat) (m : Mir) : R2 := fun x y H Q => ∃ F xs ys, Ext F H ∧ TbOk G.T F H ∧ Rep G F x (.tup xs) ∧ Rep G F y (.tup ys) ∧ eqAll t m xs ys = true ∧ ∀ H' F', Keep G.T [] F H F' H' → Q (.bl true) H'
theorem op_tupO (C : CalO X.prog X.w c.G X.mg X.base t "__eq__" k 2 m) (hK : X.K = c.G.K) (hr : Room (k + 1) X.A) : OpR X (compareOp .Eq) (rTupO c.G t m) := by
  obtain ⟨f, fd, ps, h1, h2, h3, h4, h5⟩ := C.ex
  rw [← hK] at h1 h2 h4 h5
  intro pins s σ H x y v u Q I rx ry ⟨F, xs, ys, e, tb, r1, r2, ea, q⟩
  obtain ⟨ln, all⟩ := eqAll_at ea
  have z1 : ∃ p us, x = .ref p ∧ F p = some (.tup us) ∧ Reps c.G F us xs := by
    generalize z : D.tup xs = d at r1
    cases r1 with
    | tup h rs => cases z; exact ⟨_, _, rfl, h, rs⟩
    | _ => cases z
  have z2 : ∃ p us, y = .ref p ∧ F p = some (.tup us) ∧ Reps c.G F us ys := by
    generalize z : D.tup ys = d at r2
    cases r2 with
    | tup h rs => cases z; exact ⟨_, _, rfl, h, rs⟩
    | _ => cases z
  obtain ⟨p, us, ex, hp, rs⟩ := z1
  obtain ⟨p', ws, ey, hp', rs'⟩ := z2
  subst ex; subst ey
  obtain rfl : v = Value.ref p := rx
  obtain rfl : u = Value.ref p' := ry
  obtain ⟨its, rv, pt, _⟩ := I.tuple (.of (e _ _ hp))
  obtain ⟨its2, rv2, pt2, _⟩ := I.tuple (.of (e _ _ hp'))
  have l1 := rv.length
  have l2 := rv2.length
  have l3 := rs.length
  have l4 := rs'.length
  refine PySem.W.cmp_ofEq (GQ.rc_tupG (by rw [List.size_toArray, List.size_toArray]; omega) hr.units0 (fun _ s' => ∃ F' H', Inv X pins σ H' s' ∧ Keep c.G.T [] F H F' H') pt pt2 (fun i g1 g2 s' ⟨F1, H1, I1, kp⟩ => ?_) (fun s' ⟨F1, H1, I1, kp⟩ => ⟨.bl true, H1, I1, rfl, q H1 F1 kp⟩) ⟨F, H, I, Keep.same e⟩)
  have i1 : i < its.length := by rw [List.size_toArray] at g1; exact g1
  have i2 : i < its2.length := by rw [List.size_toArray] at g2; exact g2
  obtain ⟨b1, y1, y2⟩ := Vals.at rv (List.getElem?_eq_getElem i1)
  obtain ⟨b2, y3, y4⟩ := Vals.at rv2 (List.getElem?_eq_getElem i2)
  have j1 : i < xs.length := by rw [← l3]; exact (List.getElem?_eq_some_iff.mp y1).1
  have j2 : i < ys.length := by rw [← l4]; exact (List.getElem?_eq_some_iff.mp y3).1
  obtain ⟨a1, a2, out, a3⟩ := all i _ _ (List.getElem?_eq_getElem j1) (List.getElem?_eq_getElem j2)
  have q1 := Reps.at rs y1 (List.getElem?_eq_getElem j1)
  have q2 := Reps.at rs' y3 (List.getElem?_eq_getElem j2)
  obtain ⟨fs1, e1⟩ := isI_inv a1
  obtain ⟨fs2, e2⟩ := isI_inv a2
  have w1 := q1
  have w2 := q2
  rw [e1] at w1
  rw [e2] at w2
  obtain ⟨aa, dx, ua, c1, c2, _⟩ := w1.ins_at
  obtain ⟨bb, dy, ub, c3, c4, _⟩ := w2.ins_at
  subst c1; subst c3
  have v1 : its.toArray[i] = Value.ref aa := by
    have : its[i] = Value.ref aa := y2
    simpa using this
  have v2 : its2.toArray[i] = Value.ref bb := by
    have : its2[i] = Value.ref bb := y4
    simpa using this
  rw [v1, v2]
  by_cases same : aa = bb
  · subst same
    unfold eqBool
    refine wpAny_holding ?_
    rw [if_pos (by simp)]
    exact wpAny_bind (wpAny_rule (wpAny_pure ⟨rfl, F1, H1, I1, kp⟩))
  · obtain ⟨od, J⟩ := inst_at I1 (kp.fh _ _ (kp.f _ _ c2))
    obtain ⟨od', J'⟩ := inst_at I1 (kp.fh _ _ (kp.f _ _ c4))
    obtain ⟨mm, hF⟩ := I1.fr
    refine GQ.eqBool_refG same (PySem.W.cmp_K (op := .Eq) hr.in1.units0 hF I1.ok.mod.kin J J'.type (by simp [PySem.W.notFirst]) h1 h2 (wpAny_mono (run_at (Q := fun v H' => v = .bl true ∧ ∃ F', Keep c.G.T [] F1 H1 F' H') h5 hr.in1 rfl h4 I1 (.cons relA (.cons relA .nil)) ?_) (fun w' s2 z => ?_) fun _ _ z => z))
    · exact ⟨F1, [], _, kp.fh, kp.t tb, .vals (.cons (q1.ext kp.f) (.cons (q2.ext kp.f) .nil)), rfl, _, out, a3, fun v' H' F' kp' _ rv' => ⟨rv'.bl_inv, F', kp'⟩⟩
    · obtain ⟨z', H', I', rz, ez, F', kp'⟩ := z
      subst ez
      cases rz
      exact ⟨true, rfl, rfl, F', H', I', kp.trans kp'⟩
def sTupO (t : Nat) (m : Mir) (a b : SE) : SE := fun ρ => match a ρ with
  | some (.tup xs, ρ1) => match b ρ1 with
    | some (.tup ys, ρ2) => if eqAll t m xs ys = true then some (.bl true, ρ2) else none
    | _ => none
  | _ => none
theorem tupO_w {sa sb : SE} (σ : L2.St) (H : Hp) (Q : VK) (h : vt c (sTupO t m sa sb) σ H Q) : tOp (rTupO c.G t m) (vt c sa) (vt c sb) σ H Q := by
  obtain ⟨F, ρ, I, d, ρ', e, q⟩ := h
  unfold sTupO at e
  split at e
  · rename_i xs ρ1 e1
    split at e
    · rename_i ys ρ2 e2
      split at e
      · rename_i hi
        cases e
        exact ⟨F, ρ, I, _, ρ1, e1, fun v H1 F1 x1 I1 r1 => ⟨F1, ρ1, I1, _, ρ', e2, fun u H2 F2 x2 I2 r2 => ⟨F2, xs, ys, I2.fh, I2.tb, r1.ext x2, r2, hi, fun H' F' kp => q _ H' F' ((x1.trans x2).trans kp.f) (keep_lift I2 kp) (.bl _)⟩⟩⟩
      · cases e
    · cases e
  · cases e
theorem ve_tupO {a b : Expr} {sa sb : SE} {pos : Pos} (C : CalO X.prog X.w c.G X.mg X.base t "__eq__" k 2 m) (hK : X.K = c.G.K) (hr : Room (k + 1) X.A) (ha : PE X a (vt c sa)) (hb : PE X b (vt c sb)) (hm : behindInMarks .Eq b = false := by first | exact nomark _ | rfl) :
    PE X (.Compare a [.Eq] [b] pos) (vt c (sTupO t m sa sb)) :=
  pe_of (pe_cmpR (op_tupO C hK hr) ha hb hm) fun _ _ _ h => tupO_w _ _ _ h
/-! isinstance(x, C) with both answers: x data, or of another class -/
def gIsC2 (k : Nat) (ks : List Nat) : G1
  | .ins k' _ => if k' = k then some (.bl true) else if k' ∈ ks then some (.bl false) else none
  | _ => none
end
end VS

set_option Elab.async false
set_option linter.all false
set_option maxRecDepth 100000
set_option maxHeartbeats 4000000
namespace VS
open PySem PySem.Spec PyProof.Rows L2
/-! repr; defs that make lambdas; the end of a law with tables -/
def okRepr : D → Bool
  | .int _ => true
  | .lst _ => true
  | .tup _ => true
  | _ => false
def gRep : GL
  | [d] => if okRepr d = true then gRepr [d] else none
  | _ => none
section
variable {c : Ctx} {X : Cx}
theorem ca_repr (hK : X.K = c.G.K) (hgd : X.A.guards = some []) (hu : X.A.units + 100 < cLine) : CaD c X (.builtin "repr") gRep := car_of (call_repr hgd hu) fun xs H Q ⟨F, ds, d, e, r, hg, q⟩ => by
  unfold gRep at hg
  split at hg
  · rename_i d0
    by_cases hk : okRepr d0 = true
    · rw [if_pos hk] at hg
      cases hx : toP d0 with
      | none =>
        simp only [gRepr, hx] at hg
        cases hg
      | some x =>
        simp only [gRepr, hx] at hg
        by_cases hc : x.showable = true ∧ x.hasDict = false ∧ x.depth ≤ 50 ∧ x.shown.length ≤ LN
        · rw [if_pos hc] at hg
          obtain ⟨h1, h2, h3, h4⟩ := hc
          cases hg
          cases r with
          | cons r1 r2 =>
            cases r2
            have dp := Rep.dp (K := X.K) e r1 hx
            refine ⟨_, x, rfl, dp, h1, h2, h3, ln_fit h4, ?_, ?_, ?_, q.here e (.str _)⟩
            · intro b z; subst z; cases r1; cases hk
            · intro z; subst z; cases r1; cases hk
            · intro y z; subst z; cases r1; cases hk
        · rw [if_neg hc] at hg
          cases hg
    · rw [if_neg hk] at hg
      cases hg
  · cases hg
end
theorem bt_repr : bootBuiltins "repr" = some (.builtin "repr") := by decide +kernel
theorem hu100 {A : Around} {k : Nat} (hr : Room k A) : A.units + 100 < cLine := by have := hr.un; omega
theorem hu16 {A : Around} {k : Nat} (hr : Room k A) : A.units + 16 < cLine := by have := hr.un; omega
/-- repr of True or False -/
def gRepB : GL
  | [.bl true] => some (.str "True")
  | [.bl false] => some (.str "False")
  | _ => none
/-- a def that makes lambdas: its code object is known -/
theorem cells_from : ∀ (names : List (Str × NameKind)) (n lo : Nat) (acc : List (Str × Addr)), lo ≤ n → (∀ y a, acc.lookup y = some a → lo ≤ a) → ∀ y a, (cellsFrom n names acc).lookup y = some a → lo ≤ a
  | [], n, lo, acc, _, h, y, a, e => h y a e
  | (x, kd) :: r, n, lo, acc, hl, h, y, a, e => by
    unfold cellsFrom at e
    split at e
    · refine cells_from r (n + 1) lo _ (by omega) (fun y a e => ?_) y a e
      rw [List.lookup_cons] at e
      split at e
      · cases e; exact hl
      · exact h y a e
    · exact cells_from r n lo acc hl h y a e
theorem fn_okL {P : Program} {w : World} {G : Gx} {mg : Str → Option Value} {base : Heap} {x qual : Str} {st : Stmt} {f cd : Addr} {fd : FuncData} {N ps : List Str} {k : Nat} {s : SS} (F : Fun G.K x qual st f fd) (S : FnScope N ps (defScope st)) (code : fd.code = .ref cd)
    (hb : ∀ (c : Ctx) (A : Around) (outer : List Env) (sh : Shared) (H : Hp) (E : XK), c.G = G → (∀ y a, (envOfC qual (defScope st) sh.heap.objs.size f (.ref cd)).cells.lookup y = some a → sh.heap.objs.size ≤ a) → Room k (A.deeper (envOfC qual (defScope st) sh.heap.objs.size f (.ref cd))) →
      PSs (cxOf CX0 P w G.K mg base N qual (defScope st) f (.ref cd) A outer sh H E).nox (defBody st) (vs c s)) :
    FnOk P w G.K mg base CX0 (k + 1) f fd ps (spV G ps.length (mir N.length s)) := by
  obtain ⟨oc, od, kV, doc, pm, an, cdv, ct, osl, rfl, lk, hcd⟩ := F.ex
  obtain rfl : cdv = .ref cd := code
  refine fn_of lk hcd S (fun us H Q E h => ?_) fun A outer sh H us Q E hr h => ?_
  · obtain ⟨F0, B, sl, _, _, a, hn, _⟩ := h
    rw [a.length, hn]
  · obtain ⟨F0, B, sl, e, tb, a, hn, d, o, hm, q⟩ := h
    have cells : ∀ y a, (envOfC qual (defScope st) sh.heap.objs.size f (.ref cd)).cells.lookup y = some a → sh.heap.objs.size ≤ a := fun y a h => cells_from (defScope st).names (sh.heap.objs.size + 1) sh.heap.objs.size [] (Nat.le_succ _) (fun y a h => by cases h) y a h
    refine ⟨vs ⟨G, F0, H, B⟩ s, (hb _ A outer sh H E rfl cells hr).nox, ?_⟩
    obtain ⟨fl, ρ, h1, h2, h3⟩ := mir_inv hm
    have hl := a.length
    refine ⟨F0, _, (by have := ok_start e tb a (N.length - sl.length); unfold L2.start; rw [hl]; exact this), fl, ρ, h1, ?_⟩
    have fin : ∀ σ H' F', Ok ⟨G, F0, H, B⟩ F' H' σ ρ → Keep G.T B F0 H F' H' ∧ Out G F' H' B sl o := fun σ H' F' I => ok_end e a I h2
    rcases h3 with rfl | ⟨rfl, rfl⟩
    · exact fun v σ H' F' x I r => q v H' F' (fin σ H' F' I).1 (fin σ H' F' I).2 r
    · exact fun σ H' F' x I => q .non H' F' (fin σ H' F' I).1 (fin σ H' F' I).2 .non
/-- any def may be called where no repr is under way -/
theorem FnG.of {P : Program} {w : World} {K : PySem.W.Frag} {mg : Str → Option Value} {base : Heap} {k : Nat} {f : Addr} {fd : FuncData} {ps : List Str} {sp : Sp} (F : FnOk P w K mg base CX0 k f fd ps sp) : FnG P w K mg base k f fd ps sp :=
  ⟨F.len, fun A outer s H args us vs Q E _ hr e0 b r h => F.run A outer s H args us vs Q E hr e0 b r h⟩
theorem law_okT {P : Program} {w : World} {G : Gx} {mg : Str → Option Value} {base : Heap} {k : Nat} {f : Addr} {fd : FuncData} {x : Str} {m : Mir} (F : FnG P w G.K mg base k f fd [x] (spV G 1 m))
    (h : ∀ ns : List Int, ns.length ≤ 63 → ∃ o, m [.val (.scr (ns.map .int))] = some (.bl true, o)) : FnG P w G.K mg base k f fd [x] (spLaw G) := by
  refine F.imp fun vs H Q E ⟨a, ns, e, hs, hl, tb, q⟩ => ?_
  subst e
  obtain ⟨o, ho⟩ := h ns hl
  exact ⟨noTab H, [], _, noTab_ext, noTab_tb tb, .vals (ds := [.scr (ns.map .int)]) (.one (.scr (sqL_noTab hs) (reps_ints ns))), rfl, _, o, ho, fun v H' F' _ _ r => by cases r; exact q H'⟩
/-- what the end asks: the code objects of the defs xs, each with its table -/
def EndT (l : PySem.W.OpenLaw) (w : World) (K : PySem.W.Frag) (k : Nat) (x : Str) (mg : Str → Option Value) (fa : Addr) (xs : List Str) : Prop :=
  ∃ cs : List (Addr × Addr), (∀ p ∈ cs, ∃ x ∈ xs, PySem.W.tabIn K x = some p) ∧ (∀ p ∈ cs, K.lookup p.2 = none) ∧
  ∃ fd : FuncData, (∀ (s : Shared) (u : Value), BindsTo s fd ⟨[u], []⟩ [(x, u)]) ∧ ∀ base : Heap, K.In base → base.Ns mainGlobals mg → (∀ p ∈ cs, LamX.TabB base mg p.1 p.2) →
    ∃ G : Gx, G.K = K ∧ (∀ p ∈ G.T, p.1 ∈ cs.map (·.2)) ∧ FnG l.prog w K mg base k fa fd [x] (spLaw G)
theorem law_callT {P : Program} {w : World} {K : PySem.W.Frag} {mg mb : Str → Option Value} {k : Nat} {fa a : Addr} {cs : List (Addr × Addr)} {fd : FuncData} {x : Str} {s₁ : Shared} {us : List Value} {ns : List Int}
    (KX : K.In s₁.heap) (hns : s₁.heap.Ns mainGlobals mg) (hb : s₁.heap.Ns builtinsNs mb) (hbb : ∀ x : Str, x ≠ "__name__" → mb x = bootBuiltins x) (hlim : s₁.heap.NoLimit) (hg : s₁.gens = #[])
    (hT : ∀ p ∈ cs, s₁.heap.get? p.2 = some { cls := .none, data := .fields #[] }) (nT : ∀ p ∈ cs, K.lookup p.2 = none) (CH : ∀ p ∈ cs, PySem.W.CodeHd s₁.heap p.1 p.2)
    (hbm : ∃ (bm : Addr) (ob : Obj), mg "__builtins__" = some (.ref bm) ∧ bm ≠ builtinsNs ∧ s₁.heap.get? bm = some ob ∧ ob.cls = .type "module" ∧ ob.dict = some builtinsNs ∧ ob.data = .plain)
    (ha : s₁.heap.get? a = some { cls := .type "list", data := .seq us.toArray }) (hi : IntsAre us ns) (hl : ns.length ≤ 63) (hr : Room k callerA)
    (F : ∀ base : Heap, K.In base → base.Ns mainGlobals mg → (∀ p ∈ cs, LamX.TabB base mg p.1 p.2) → ∃ G : Gx, G.K = K ∧ (∀ p ∈ G.T, p.1 ∈ cs.map (·.2)) ∧ FnG P w K mg base k fa fd [x] (spLaw G)) (hbind : ∀ (s : Shared) (u : Value), BindsTo s fd ⟨[u], []⟩ [(x, u)]) :
    codeAny (model P w) callerA (.call (.ref fa) ⟨[.ref a], []⟩) (fun r s' => r = .ok (.ret (.bool true)) ∧ OldK s₁.heap s'.heap ∧ s'.os = s₁.os ∧ AllBare s'.gens) s₁ := by
  have rv := vals_ints hi
  have lenV := hi.length
  have ls : ns.length ≤ sizeLine := Nat.le_trans hl (by decide)
  generalize hts : cs.map (·.2) = ts
  have tsT : ∀ b, b ∈ ts → ∃ p ∈ cs, p.2 = b := fun b h => by rw [← hts] at h; obtain ⟨p, h1, h2⟩ := List.mem_map.mp h; exact ⟨p, h1, h2⟩
  have inT : ∀ p ∈ cs, p.2 ∈ ts := fun p h => by rw [← hts]; exact List.mem_map.mpr ⟨p, h, rfl⟩
  have isT : ∀ b, b ∈ ts → s₁.heap.get? b = some { cls := .none, data := .fields #[] } := fun b h => by obtain ⟨p, h1, h2⟩ := tsT b h; rw [← h2]; exact hT p h1
  have aT : a ∉ ts := fun z => by
    have q := isT a z
    rw [ha] at q
    have q' : Data.seq us.toArray _ = Data.fields #[] := congrArg Obj.data (Option.some.inj q)
    cases q'
  -- tracked: the tables, and the script's list where it is not of the written part
  have main : ∀ (tr : Bool), (tr = true → K.lookup a = none) → (tr = false → ∃ o, K.lookup a = some o ∧ o = { cls := .type "list", data := .seq us.toArray }) →
      codeAny (model P w) callerA (.call (.ref fa) ⟨[.ref a], []⟩) (fun r s' => r = .ok (.ret (.bool true)) ∧ OldK s₁.heap s'.heap ∧ s'.os = s₁.os ∧ AllBare s'.gens) s₁ := fun tr k1 k2 => by
    let lo : Obj := { cls := .type "list", data := .seq us.toArray }
    let H : Hp := fun b => if b ∈ ts then some (.tbl #[]) else if b = a ∧ tr = true then some (.frz lo (.lst (ns.map V.int))) else none
    have Ht : ∀ b, b ∈ ts → H b = some (.tbl #[]) := fun b h => if_pos h
    have Ha : tr = true → H a = some (.frz lo (.lst (ns.map V.int))) := fun h => (if_neg aT).trans (if_pos ⟨rfl, h⟩)
    have Hn : ∀ b, b ∉ ts → ¬ (b = a ∧ tr = true) → H b = none := fun b h1 h2 => (if_neg h1).trans (if_neg h2)
    have only : ∀ b, H b ≠ none → b ∈ ts ∨ (b = a ∧ tr = true) := fun b h => by
      by_cases z1 : b ∈ ts
      · exact .inl z1
      · by_cases z2 : b = a ∧ tr = true
        · exact .inr z2
        · exact absurd (Hn b z1 z2) h
    have hok : HOk P w H s₁.heap := fun b u e => by
      by_cases z1 : b ∈ ts
      · rw [Ht b z1] at e; cases e; exact isT b z1
      · by_cases z2 : b = a ∧ tr = true
        · rw [z2.1, Ha z2.2] at e
          cases e
          rw [z2.1]
          exact ⟨ha, by rw [List.length_map]; exact ls, us, _, rv, ha⟩
        · rw [Hn b z1 z2] at e; cases e
    have hS : SqL K H a (ns.map V.int) := by
      cases tr with
      | true => exact .inl (.inr ⟨lo, Ha rfl⟩)
      | false =>
        obtain ⟨o, q1, q2⟩ := k2 rfl
        subst q2
        exact .inr ⟨_, us.toArray, _, q1, rfl, rfl, rfl, by rw [List.size_toArray, lenV]; exact ls, by simpa using rv⟩
    have hid : ∀ {b : Addr} {o : Obj}, s₁.heap.get? b = some o → H b = none → (hidT s₁.heap H).get? b = some o := fun e n => hidT_get e n
    have free : ∀ {b : Addr} {o : Obj}, s₁.heap.get? b = some o → (∀ vs n, o.data ≠ .seq vs n) → o.data ≠ .fields #[] → H b = none := fun {b o} e h1 h2 => Classical.byContradiction fun q => by
      rcases only b q with z | ⟨z, _⟩
      · rw [isT b z] at e; cases e; exact h2 rfl
      · rw [z, ha] at e; cases e; exact h1 _ _ rfl
    have dict : ∀ {b : Addr} {o : Obj} {es : Array DictEntry} {ep : Nat}, s₁.heap.get? b = some o → o.data = .dict es ep → H b = none := fun e d => free e (fun vs n z => by rw [d] at z; cases z) fun z => by rw [d] at z; cases z
    have nsK : ∀ {b : Addr} {m : Str → Option Value}, s₁.heap.Ns b m → (hidT s₁.heap H).Ns b m := fun {b m} ⟨o, es, ep, e, d, r⟩ => ⟨o, es, ep, hid e (dict e d), d, r⟩
    have kb : K.In (hidT s₁.heap H) := fun b o e => hid (KX b o e) (Classical.byContradiction fun q => by
      rcases only b q with z | ⟨z1, z2⟩
      · obtain ⟨p, p1, p2⟩ := tsT b z
        rw [← p2, nT p p1] at e; cases e
      · rw [z1, k1 z2] at e; cases e)
    have md : Mod K mg (hidT s₁.heap H) := ⟨kb, nsK hns, ⟨mb, nsK hb, hbb⟩, let ⟨mc, h1, h2⟩ := hlim; ⟨mc, nsK h1, h2⟩⟩
    have TB : ∀ p ∈ cs, LamX.TabB (hidT s₁.heap H) mg p.1 p.2 := fun p hp => by
      have hTp := hT p hp
      obtain ⟨o, vs', file, tf, flags, tg, inF, text, tt, e1, r1, r2, r3, r4, r5, r6, r7, r8, hne⟩ := CH p hp
      obtain ⟨bm, ob, b1, b2, b3, b4, b5, b6⟩ := hbm
      have nG : bm ≠ mainGlobals := fun q => by
        obtain ⟨o, es, ep, e, hd, _⟩ := hns
        rw [q, e] at b3
        cases b3
        rw [hd] at b6
        cases b6
      have nP : bm ≠ p.2 := fun q => by
        rw [q, hTp] at b3
        cases b3
        cases b6
      refine ⟨⟨o, vs', file, tf, flags, tg, inF, text, tt, hid e1 (free e1 (fun vs n z => by rw [r2] at z; cases z) fun z => ?_), r1, r2, r3, r4, r5, r6, r7, r8, hne⟩, ⟨bm, ob, b1, b2, nG, nP, hid b3 (free b3 (fun vs n z => by rw [b6] at z; cases z) fun z => by rw [b6] at z; cases z), b4, b5, b6⟩, fun z => ?_⟩
      · rw [r2] at z; cases z; simp at r3
      · obtain ⟨o, es, ep, e, hd, _⟩ := hns
        rw [z, hTp] at e
        cases e
        cases hd
    have e0 : Env0 P w K mg (hidT s₁.heap H) callerA [] s₁ H := ⟨rfl, md, fun b o e => of_hidT e, Nat.le_of_eq (hidT_size _ _), trivial, fun b hb => absurd (show b ∈ ([] : List Addr) from hb) (by simp), hok, .of_eq hg⟩
    obtain ⟨G, GK, GT, FG⟩ := F _ kb (nsK hns) TB
    have tabs : LamX.Tabs G.T H := fun p hp => LamX.TabS.nil (Ht _ (by rw [← hts]; exact GT p hp))
    refine codeAny_mono (FG.run callerA [] s₁ H ⟨[.ref a], []⟩ [.ref a] [.ref a] (fun v _ => v = .bl true) (fun _ _ _ => False) rfl hr e0 (hbind s₁ (.ref a)) (.cons rfl .nil) ⟨a, ns, rfl, by rw [GK]; exact hS, hl, tabs, fun _ => rfl⟩) fun r s' h => ?_
    match r, h with
    | .error e, h => exact h.elim
    | .ok .next, h => exact False.elim h
    | .ok .brk, h => exact False.elim h
    | .ok .cont, h => exact False.elim h
    | .ok (.ret u), h =>
      obtain ⟨v, H', os, bare, un, hok', r', q⟩ := h
      have q' : v = .bl true := q
      subst q'
      obtain rfl : u = Value.bool true := r'
      have stays : ∀ b o, b ∉ ts → s₁.heap.get? b = some o → s'.heap.get? b = some o := fun b o nb e => by
        by_cases z : H b = none
        · exact un.keep b o e z (by intro z; exact absurd (show b ∈ ([] : List Addr) from z) (by simp)) (by simp)
        · rcases only b z with z | ⟨z1, z2⟩
          · exact absurd z nb
          · have h1 := Ha z2
            have h2 := un.frzs a lo _ h1
            obtain ⟨g1, _⟩ := hok' a _ h2
            rw [z1, ha] at e
            cases e
            rw [z1]
            exact g1
      have grown : ∀ b, b ∈ ts → ∃ more : Array Value, s'.heap.get? b = some { cls := .none, data := .fields more } := fun b hb => by
        obtain ⟨more, z⟩ := un.tbls b #[] (Ht b hb)
        exact ⟨_, hok' b _ z⟩
      refine ⟨rfl, ⟨fun b o e => ?_, fun b o e => ?_⟩, os, bare⟩
      · by_cases hb : b ∈ ts
        · obtain ⟨p, p1, p2⟩ := tsT b hb
          obtain ⟨more, hm⟩ := grown b hb
          rw [isT b hb] at e
          cases e
          have hcode := ((CH p p1).tab (hT p p1)).isCodeTable
          rw [p2] at hcode
          exact .inr (.inl ⟨hcode, rfl, #[], more, rfl, by rw [Array.empty_append]; exact hm⟩)
        · exact .inl (stays b o hb e)
      · by_cases hb : b ∈ ts
        · obtain ⟨more, hm⟩ := grown b hb; exact ⟨_, hm⟩
        · exact ⟨o, stays b o hb e⟩
  cases hk : K.lookup a with
  | none => exact main true (fun _ => hk) fun z => by cases z
  | some o =>
    have e := KX a o hk
    rw [ha] at e
    cases e
    exact main false (fun z => by cases z) fun _ => ⟨_, hk, rfl⟩
theorem walk_ofT {l : PySem.W.OpenLaw} {k : Nat} {q : Program} {loose : List Str} {XP : (Str → Option Value) → Heap → Prop} {YP : World → Heap → Prop} {d : DefRec} {K : Params → PySem.W.Frag} {x : Str} (xs : List Str)
    (hn : l.most = some 63) (hdf : d.params.defaults = []) (hr : Room k callerA) (hY : ∀ (w : World) (h : Heap), YP w h → (K w.params).In h) (hxs : (xs.all fun x => ((recsOf q).find? fun e => e.name == x).isSome) = true)
    (F : ∀ (w : World) (mg : Str → Option Value) (fa : Addr) (h : Heap), (K w.params).In h → h.Ns mainGlobals mg → mg d.name = some (.ref fa) → EndT l w (K w.params) k x mg fa xs) :
    PySem.W.WalkO q loose XP YP l.row.toRowW d [] (fun f vs => PySem.call f vs) := by
  refine Att.attach_call hn hdf fun w s₀ s₁ mg mb fa o pm cd doc a us ns G Y ho hd hcd hmg hobj hints hlen hg => ?_
  have KX := hY w _ Y
  obtain ⟨cs, hcs, nT, fd, hb, hF⟩ := F w mg fa _ KX G.T.g hmg
  have tb : ∀ p ∈ cs, PySem.W.CodeHd s₁.heap p.1 p.2 ∧ s₁.heap.get? p.2 = some (PySem.W.tabObj #[]) := fun p hp => by
    obtain ⟨x, hx, ht⟩ := hcs p hp
    obtain ⟨e, he⟩ := Option.isSome_iff_exists.mp (List.all_eq_true.mp hxs x hx)
    exact PySem.W.tab_of G.T KX he ht
  exact law_callT KX G.T.g G.T.b G.T.builtins G.T.nolimit hg (fun p hp => (tb p hp).2) nT (fun p hp => (tb p hp).1) G.T.bmain hobj hints hlen hr hF hb
end VS

set_option Elab.async false
set_option linter.all false
set_option maxRecDepth 100000
set_option maxHeartbeats 4000000
namespace VS
open PySem PySem.Spec PyProof.Rows L2
/-! e not in name, the name a list of one's own that is changed later -/
def sNotInM (i : Nat) (a : SE) : SE := fun ρ => match a ρ with
  | some (x, ρ1) => match conM ρ1 i with
    | some xs => match inD x xs with
      | some r => some (.bl (!r), ρ1)
      | none => none
    | none => none
  | none => none
section
variable {c : Ctx} {X : Cx}
theorem notInM_w {i : Nat} {sa : SE} (σ : L2.St) (H : Hp) (Q : VK) (h : vt c (sNotInM i sa) σ H Q) : tOp (rIn X.K true) (vt c sa) (tVar i) σ H Q := by
  obtain ⟨F, ρ, I, d, ρ', e, q⟩ := h
  unfold sNotInM at e
  split at e
  · rename_i x ρ1 e1
    split at e
    · rename_i xs e2
      split at e
      · rename_i r e3
        cases e
        refine ⟨F, ρ, I, x, ρ', e1, fun u H1 F1 x1 I1 r1 => ?_⟩
        obtain ⟨p, vs, h1, h2, h3, h4⟩ := I1.own e2
        refine ⟨_, h1, ?_⟩
        have eF : Ext F1 H1 := I1.fh
        have ext : Ext (upd F1 p (.lst vs)) H1 := fun b o hb => by
          by_cases z : b = p
          · subst z
            rw [upd_same] at hb
            cases hb
            exact h2
          · rw [upd_ne z] at hb
            exact eF b o hb
        have up : Ext F1 (upd F1 p (.lst vs)) := Ext.upd h3
        have rb : Rep c.G (upd F1 p (.lst vs)) (.ref p) (.lst xs) := .lst upd_same (h4.ext up)
        have hb : inB x (.lst xs) = some r := e3
        rcases in_of (K := X.K) ext (r1.ext up) rb hb with ⟨p', ys, k1, k2, k3, k4, k5⟩ | ⟨k, z, k1, k2, _⟩
        · cases k1
          exact ⟨p, ys, rfl, k2, k3, k4, by subst k5; exact q (.bl _) H1 F1 x1 I1 (.bl _)⟩
        · cases k2
      · cases e
    · cases e
  · cases e
theorem vt_notInM {a b : Expr} {i : Nat} {sa : SE} {pos} (ha : PE X a (vt c sa)) (hb : PE X b (tVar i)) (hm : behindInMarks .NotIn b = false := by first | exact nomark _ | rfl) : PT X (.Compare a [.NotIn] [b] pos) (vb c (sB (sNotInM i sa))) :=
  pt_of (pt_cmpR op_notIn_seq ha hb hm) fun _ _ _ h => vb_test (fun _ => notInM_w _ _ _) h
end
/-! repr of True, False, None too -/
def gRep2 : GL
  | [.bl b] => some (.str (if b then "True" else "False"))
  | [.non] => some (.str "None")
  | xs => gRep xs
section
variable {c : Ctx} {X : Cx}
theorem ca_repr2 (hK : X.K = c.G.K) (hgd : X.A.guards = some []) (hu : X.A.units + 100 < cLine) : CaD c X (.builtin "repr") gRep2 := by
  intro pins s σ H xs us Q I r ⟨F, ds, d, e, rr, hg, q⟩
  unfold gRep2 at hg
  split at hg
  · rename_i b
    cases hg
    cases rr with
    | cons r1 r2 =>
      cases r2
      cases r with
      | cons u1 u2 =>
        cases u2
        cases r1
        rename_i u
        cases u1
        exact PySem.P.repr_of_bool ⟨.str _, H, I.tok _, ⟨_, rfl⟩, q.here e (.str _)⟩
  · cases hg
    cases rr with
    | cons r1 r2 =>
      cases r2
      cases r with
      | cons u1 u2 =>
        cases u2
        cases r1
        cases u1
        exact PySem.P.repr_of_none ⟨.str _, H, I.tok _, ⟨_, rfl⟩, q.here e (.str _)⟩
  · exact ca_repr hK hgd hu pins s σ H xs us Q I r ⟨F, ds, d, e, rr, hg, q⟩
end
end VS

set_option Elab.async false
set_option linter.all false
set_option maxRecDepth 100000
set_option maxHeartbeats 4000000
namespace VS
open PySem PySem.Spec PyProof.Rows L2
/-! self.f read in an __init__ -/
def sSelfF (t j : Nat) : SE := fun ρ => match (ρ[0]? : Option Sl) with
  | some (.slf t' fs) => if t' = t then (fs[j]?).map fun d => (d, ρ) else none
  | _ => none
theorem look_cut {f : Str} : ∀ {l : List Str} {j n : Nat}, look f l = some j → j < n → look f (l.take n) = some j
  | [], j, n, h, _ => by simp [look] at h
  | g :: r, j, 0, h, hn => absurd hn (Nat.not_lt_zero _)
  | g :: r, j, n + 1, h, hn => by
    unfold look at h
    rw [List.take_succ_cons]
    unfold look
    by_cases z : f = g
    · rw [if_pos z] at h ⊢; exact h
    · rw [if_neg z] at h ⊢
      cases e : look f r with
      | none => rw [e] at h; cases h
      | some i =>
        rw [e] at h
        cases h
        have hn : i + 1 < n + 1 := hn
        rw [look_cut e (by omega)]
        rfl
section
variable {c : Ctx} {X : Cx}
theorem ve_selfF {e : Expr} {f : Str} {pos : Pos} (t j : Nat) (he : PE X e (tVar 0)) (cl : Cls X.K (c.G.cls t)) (n : NoAttr X.K (c.G.cls t) f) (hj : look f (c.G.fld t) = some j) (hb : attributeBase e f X.env (eval e X.env) = eval e X.env := by rfl) :
    PE X (.Attribute e f pos) (vt c (sSelfF t j)) := by
  refine pe_of (pe_fld he hb) fun σ H Q ⟨F, ρ, I, d, ρ', e, q⟩ => ?_
  unfold sSelfF at e
  split at e
  · rename_i t' fs hs
    split at e
    · rename_i ht
      subst ht
      cases e2 : fs[j]? with
      | none => rw [e2] at e; cases e
      | some d' =>
        rw [e2] at e
        cases e
        obtain ⟨ov, h1, h2⟩ := I.sl 0 _ hs
        cases ov with
        | none => exact h2.elim
        | some v =>
          obtain ⟨p, ev, hB, hF, dx, us, hh, ⟨m, hn⟩, r⟩ := h2
          subst ev
          obtain ⟨u, g1, g2⟩ := r.get e2
          refine ⟨_, h1, _, _, _, _, u, rfl, hh, cl, n, ?_, q u H F Ext.rfl' I g2⟩
          have hl : j < us.length := by
            have := (List.getElem?_eq_some_iff.mp g1).1
            rw [List.length_map] at this
            exact this
          have hl2 : us.length ≤ m := by
            have := congrArg List.length hn
            rw [List.length_map, List.length_take] at this
            omega
          rw [lookup_of (j := j) (by rw [hn]; exact look_cut hj (by omega))]
          exact g1
    · cases e
  · cases e
end
end VS

set_option Elab.async false
set_option linter.all false
set_option maxRecDepth 100000
set_option maxHeartbeats 8000000
namespace VS
open PySem PySem.Spec PyProof.Rows L2
/-! sorted of texts -/
def sleB (a b : Str) : Bool := !decide (b.cps.toList < a.cps.toList)
theorem sle_trans {a b c : Str} (h : sleB a b = true) (h2 : sleB b c = true) : sleB a c = true := by
  unfold sleB at *
  simp only [Bool.not_eq_true', decide_eq_false_iff_not, List.not_lt] at *
  exact List.le_trans h h2
theorem sle_total (a b : Str) : (sleB a b || sleB b a) = true := by
  unfold sleB
  simp only [Bool.or_eq_true, Bool.not_eq_true', decide_eq_false_iff_not, List.not_lt]
  exact List.le_total _ _
theorem sle_anti {a b : Str} (h : sleB a b = true) (h2 : sleB b a = true) : a = b := by
  unfold sleB at *
  simp only [Bool.not_eq_true', decide_eq_false_iff_not, List.not_lt] at *
  have e := List.le_antisymm h h2
  cases a with | mk x => cases b with | mk y =>
  congr 1
  exact Array.toList_inj.mp e
def ssort (l : List Str) : List Str := l.mergeSort sleB
theorem ssort_perm (l : List Str) : (ssort l).Perm l := List.mergeSort_perm l _
theorem ssort_sorted (l : List Str) : (ssort l).Pairwise fun a b => sleB a b = true :=
  List.pairwise_mergeSort (le := sleB) (fun a b c h1 h2 => sle_trans h1 h2) sle_total l
theorem srt_uniq : ∀ {l m : List Str}, l.Pairwise (fun a b => sleB a b = true) → m.Pairwise (fun a b => sleB a b = true) → l.Perm m → l = m
  | [], m, _, _, h => h.symm.eq_nil.symm ▸ rfl
  | a :: l, [], _, _, h => by have := h.length_eq; simp at this
  | a :: l, b :: m, h1, h2, h => by
    have p1 := List.pairwise_cons.mp h1
    have p2 := List.pairwise_cons.mp h2
    have e : a = b := by
      have m1 : a ∈ b :: m := h.mem_iff.mp List.mem_cons_self
      have m2 : b ∈ a :: l := h.mem_iff.mpr List.mem_cons_self
      rcases List.mem_cons.mp m1 with q | q
      · exact q
      · rcases List.mem_cons.mp m2 with q2 | q2
        · exact q2.symm
        · exact sle_anti (p1.1 b q2) (p2.1 a q)
    subst e
    rw [srt_uniq p1.2 p2.2 (List.perm_cons a |>.mp h)]
theorem rising_pw : ∀ (l : List Str) (p : Str), risingS p l = true → (p :: l).Pairwise fun a b => sleB a b = true
  | [], p, _ => List.pairwise_singleton _ _
  | x :: r, p, h => by
    unfold risingS at h
    rw [Bool.and_eq_true] at h
    have ih := rising_pw r x h.2
    have e : sleB p x = true := by
      have := h.1
      rw [ltCps_eq] at this
      exact this
    refine List.pairwise_cons.mpr ⟨fun y hy => ?_, ih⟩
    rcases List.mem_cons.mp hy with q | q
    · rw [q]; exact e
    · exact sle_trans e ((List.pairwise_cons.mp ih).1 y q)
theorem sorted_pw : ∀ {l : List Str}, sortedS l = true → l.Pairwise fun a b => sleB a b = true
  | [], _ => List.Pairwise.nil
  | x :: r, h => rising_pw r x h
theorem ssort_uniq {l m : List Str} (hp : m.Perm l) (hs : sortedS m = true) : m = ssort l :=
  srt_uniq (sorted_pw hs) (ssort_sorted l) (hp.trans (ssort_perm l).symm)
def rSortedS (K : PySem.W.Frag) : List V → Hp → VK → Prop := fun vs H Q => ∃ (a : Addr) (ns : List Str), vs = [V.ref a] ∧ SqL K H a (ns.map V.str) ∧ ns.length < 64 ∧
  ∀ (ns' : List Str) (p : Addr), ns'.Perm ns → sortedS ns' = true → H p = none → Q (.ref p) (upd H p (.lst (ns'.map V.str)))
theorem cr_sortedS {X : Cx} : CallR X (.builtin "sorted") (rSortedS X.K) := by
  intro pins s σ H vs us Q I r h
  obtain ⟨a, ns, rfl, hs, h64, q⟩ := h
  obtain ⟨its, rv, hl, hz⟩ := I.list hs
  rw [Vals.ref1 r]
  have hi := rv.strs
  have il : its.length = ns.length := by rw [← rv.length, List.length_map]
  refine PyProof.Rows.sorted_strs hl.isList hi (by rw [il]; exact h64) fun out ns' k1 k2 k3 => ?_
  obtain ⟨ep, he'⟩ := PyProof.Rows.sortedAll_at s.heap its out
  have hlen : (ns'.map V.str).length ≤ sizeLine := by
    rw [List.length_map, k2.length_eq]
    rw [List.length_map] at hz
    exact hz
  exact ⟨.ref _, upd H (s.heap.objs.size + 1) (.lst (ns'.map V.str)), I.laid (t' := s.toks) (fun _ _ => PyProof.Rows.sortedAll_old) (Nat.le_succ _) ⟨hlen, out.toList, ep, vals_of_strs k1, he'⟩, rfl, q _ _ k2 k3 (I.hok.fresh (Nat.le_succ _))⟩
def gSortS : GL
  | [.lst xs] => match strs' xs with
    | some is => if is.length < 64 then some (.lst ((ssort is).map .str)) else none
    | none => none
  | _ => none
theorem reps_strs {G : Gx} {F : Hp} : ∀ (l : List Str), Reps G F (l.map V.str) (l.map D.str)
  | [] => .nil
  | x :: r => .cons (.str x) (reps_strs r)
theorem ca_sortedS {c : Ctx} {X : Cx} : CaD c X (.builtin "sorted") gSortS := car_of cr_sortedS fun xs H Q ⟨F, ds, d, e, r, hg, q⟩ => by
  unfold gSortS at hg
  split at hg
  · split at hg
    · rename_i is hi
      split at hg
      · rename_i hl
        cases hg
        obtain ⟨a, vs, h1, h2, rs⟩ := lst1 e r
        refine ⟨a, _, h1, .of (strs_reps rs hi ▸ h2), hl, fun ns' p hp hs hn => ?_⟩
        have := ssort_uniq hp hs
        subst this
        exact q.newL e (reps_strs _) p hn
      · cases hg
    · cases hg
  · cases hg
end VS

set_option Elab.async false
set_option linter.all false
set_option maxRecDepth 100000
set_option maxHeartbeats 8000000
namespace VS
open PySem PySem.Spec PyProof.Rows L2
/-! C.m(e, ..), m a static method of the class -/
structure CalS (P : Program) (w : World) (G : Gx) (mg : Str → Option Value) (base : Heap) (cn : Str) (t : Nat) (x : Str) (k n : Nat) (m : Mir) : Prop where
  ex : ∃ (p f : Addr) (fd : FuncData) (ps : List Str), mg cn = some (.ref (G.cls t)) ∧ PySem.W.readsIn G.K (G.cls t) (.type "type") = true ∧
    PySem.W.specialIn G.K (.ref (G.cls t)) "__getattribute__" = some (some (.builtin "type.__getattribute__")) ∧
    PySem.W.findCls G.K (.ref (G.cls t)) (.type "type") x = some (.get (.builtin "staticmethod.__get__") (.ref p) .none (.ref (G.cls t))) ∧
    (∃ rest : List Value, PySem.W.recIn G.K p "staticmethod" = some (.ref f :: rest)) ∧ PySem.W.keepIn G.K (.ref f) = true ∧ Binds G.K fd ps [] ∧ FnOk P w G.K mg base CX0 k f fd ps (spV G n m)
section
variable {X : Cx} {c : Ctx} {k n t : Nat} {m : Mir} {cn x : Str} {e : Expr} {es : List Expr} {p apos pos : Pos}
theorem ve_callS {sa : SA} {pl : Sem Bool} (C : CalS X.prog X.w c.G X.mg X.base cn t x k n m) (hK : X.K = c.G.K) (hr : Room k X.A) (ha : PA X (e :: es) (va c sa)) (hg : Gl X cn := by rfl) (hdb : (cn == ("__debug__" : Str)) = false := by decide)
    (he : starEach (e :: es) X.env = (false, eval e X.env) :: starEach es X.env := by rfl) (hpl : (backTo pos (starEach es X.env)).any (·.1) = false := by rfl)
    (ht : eval (.Call (.Attribute (.Name cn p) x apos) (e :: es) [] pos) X.env = (do
      let ov ← eval (.Name cn p) X.env
      standAt apos.atName
      let (f, first) ← holding [ov] (getMethod ov x pl)
      callWith pos f first (backTo pos (starEach (e :: es) X.env)) (backToKw pos (keywordEach [] X.env))) := by rfl) :
    PE X (.Call (.Attribute (.Name cn p) x apos) (e :: es) [] pos) (vt c (sCall n m sa)) := by
  obtain ⟨q, f, fd, ps, hm, h1, h2, h3, ⟨rest, h4⟩, hk, hb, hF⟩ := C.ex
  rw [← hK] at h1 h2 h3 h4 hk hb hF
  refine pe_of (t := tCall (spV c.G n m) [] E0 (va c sa)) ⟨fun pins s σ H Q I h => ?_⟩ call_w
  refine PySem.W.methodCall_KW (pl := pl) (ld_glob I hg hm ?_ hdb) ht
  refine PySem.W.method_cls I.kIn h2 (PySem.W.cls_bind I.kIn h1 h3 (wpAny_call (PySem.W.sm_get (s := { s with toks := s.toks + 1 }) I.kIn h4 (PySem.W.handed_on rfl ?_))))
  refine PySem.W.callWith_K (h₀ := X.base) I.ok.mod.kin hk (thn (ha.run pos pins _ σ H _ (I.tok _) h) fun us s1 ⟨vs, H1, I1, r, q⟩ => ⟨I1.kIn, ?_⟩) he hpl
  exact run_fn hF hr hb .nil pass0 I1 r q
end
end VS

set_option Elab.async false
set_option linter.all false
set_option maxRecDepth 100000
set_option maxHeartbeats 8000000
namespace VS
open PySem PySem.Spec PyProof.Rows L2
/-! the end of a claim in which a method makes a lambda: its table is known by the head's own list -/
def EndM (l : PySem.W.OpenLaw) (w : World) (K : PySem.W.Frag) (k : Nat) (x : Str) (mg : Str → Option Value) (fa : Addr) (xs : List Str) (ts : List Addr) : Prop :=
  ∃ cs : List (Addr × Addr), (∀ p ∈ cs, (∃ x ∈ xs, PySem.W.tabIn K x = some p) ∨ (PySem.W.codeHdIn K p.1 p.2 = true ∧ p.2 ∈ ts)) ∧ (∀ p ∈ cs, K.lookup p.2 = none) ∧
  ∃ fd : FuncData, (∀ (s : Shared) (u : Value), BindsTo s fd ⟨[u], []⟩ [(x, u)]) ∧ ∀ base : Heap, K.In base → base.Ns mainGlobals mg → (∀ p ∈ cs, LamX.TabB base mg p.1 p.2) →
    ∃ G : Gx, G.K = K ∧ (∀ p ∈ G.T, p.1 ∈ cs.map (·.2)) ∧ FnG l.prog w K mg base k fa fd [x] (spLaw G)
theorem walk_ofM {l : PySem.W.OpenLaw} {k : Nat} {q : Program} {loose : List Str} {XP : (Str → Option Value) → Heap → Prop} {YP : World → Heap → Prop} {d : DefRec} {K : Params → PySem.W.Frag} {x : Str} {ts : List Addr} (xs : List Str)
    (hn : l.most = some 63) (hdf : d.params.defaults = []) (hr : Room k callerA) (hY : ∀ (w : World) (h : Heap), YP w h → (K w.params).In h) (hZ : ∀ (w : World) (h : Heap), YP w h → ∀ P ∈ ts, h.get? P = some (PySem.W.tabObj #[])) (hxs : (xs.all fun x => ((recsOf q).find? fun e => e.name == x).isSome) = true)
    (F : ∀ (w : World) (mg : Str → Option Value) (fa : Addr) (h : Heap), (K w.params).In h → h.Ns mainGlobals mg → mg d.name = some (.ref fa) → EndM l w (K w.params) k x mg fa xs ts) :
    PySem.W.WalkO q loose XP YP l.row.toRowW d [] (fun f vs => PySem.call f vs) := by
  refine Att.attach_call hn hdf fun w s₀ s₁ mg mb fa o pm cd doc a us ns G Y ho hd hcd hmg hobj hints hlen hg => ?_
  have KX := hY w _ Y
  have KZ := hZ w _ Y
  obtain ⟨cs, hcs, nT, fd, hb, hF⟩ := F w mg fa _ KX G.T.g hmg
  have tb : ∀ p ∈ cs, PySem.W.CodeHd s₁.heap p.1 p.2 ∧ s₁.heap.get? p.2 = some (PySem.W.tabObj #[]) := fun p hp => by
    rcases hcs p hp with ⟨x, hx, ht⟩ | ⟨h1, h2⟩
    · obtain ⟨e, he⟩ := Option.isSome_iff_exists.mp (List.all_eq_true.mp hxs x hx)
      exact PySem.W.tab_of G.T KX he ht
    · exact ⟨PySem.W.codeHd_of_K KX h1, KZ _ h2⟩
  exact law_callT KX G.T.g G.T.b G.T.builtins G.T.nolimit hg (fun p hp => (tb p hp).2) nT (fun p hp => (tb p hp).1) G.T.bmain hobj hints hlen hr hF hb
end VS

set_option Elab.async false
set_option linter.all false
set_option maxRecDepth 100000
set_option maxHeartbeats 8000000
namespace VS
open PySem PySem.Spec PyProof.Rows L2
/-! x.count(e) of a list of flat values -/
section
variable {X : Cx}
def rCnt (K : PySem.W.Frag) : V → List V → Hp → VK → Prop := fun x xs H Q => ∃ (a : Addr) (ys : List V) (y : V), x = V.ref a ∧ xs = [y] ∧ SqL K H a ys ∧ flatV y = true ∧ ys.all flatV = true ∧ Q (.int ((ys.countP fun z => eqV z y : Nat) : Int)) H
theorem cnt_vals {y : V} {e : Value → Bool} (he : ∀ {z : V} {u : Value}, L2.RelV z u → flatV z = true → e u = eqV z y) : ∀ {ys : List V} {its : List Value}, Vals ys its → ys.all flatV = true → its.countP e = ys.countP fun z => eqV z y
  | _, _, .nil, _ => rfl
  | _, _, .cons r rs, h => by
    rw [List.all_cons, Bool.and_eq_true] at h
    rw [List.countP_cons, List.countP_cons, cnt_vals he rs h.2, he r h.1]
theorem mt_cnt : MtR X "list.count" (rCnt X.K) := by
  intro pins s σ H x xs v us Q I rx rxs h
  obtain ⟨a, ys, y, rfl, rfl, hs, fy, fys, q⟩ := h
  cases rx
  cases rxs with
  | cons ry rt =>
    rename_i uy ut
    cases rt
    obtain ⟨its, rv, ⟨⟨cls, dd, data, sl⟩, n, ho, hc, hdn, hd⟩, hlen⟩ := I.list hs
    simp only at hc hd
    subst hc hd
    refine call_meets PySem.F.slot_list_count ⟨_, ho, rfl⟩ PySem.F.entry_list_count (PySem.F.args_list_count_2 _ _)
      (SeqAt.list_countAt a its.toArray n dd sl uy (eqU y)) ⟨ho, fun u' hu' => mem_eqAt ry fy rv fys u' (by simpa using hu'), ?_⟩
    have ec : its.countP (eqU y) = ys.countP fun z => eqV z y := cnt_vals (fun ru fz => eqU_of ru fz) rv fys
    refine ⟨.int ((ys.countP fun z => eqV z y : Nat) : Int), H, I.tok _, ⟨s.toks, ?_⟩, q⟩
    show Value.int ((its.countP (eqU y) : Nat) : Int) s.toks = Value.int ((ys.countP fun z => eqV z y : Nat) : Int) s.toks
    rw [ec]
end
def gCount : D → D → Option D
  | .lst xs, b => if flatD b = true ∧ xs.all flatD = true then some (.int ((xs.countP fun a => eqF a b : Nat) : Int)) else none
  | _, _ => none
section
variable {X : Cx} {c : Ctx}
theorem cnt_reps {F : Hp} {y : V} {b : D} (hy : Rep c.G F y b) (fb : flatD b = true) : ∀ {ys : List V} {xs : List D}, Reps c.G F ys xs → xs.all flatD = true → (ys.countP fun z => eqV z y) = xs.countP fun a => eqF a b
  | _, _, .nil, _ => rfl
  | _, _, .cons r rs, h => by
    rw [List.all_cons, Bool.and_eq_true] at h
    rw [List.countP_cons, List.countP_cons, cnt_reps hy fb rs h.2, eqF_of r hy h.1 fb]
theorem ve_count {o e : Expr} {so s : SE} {apos cpos : Pos} (h : PE X o (vt c so)) (he : PE X e (vt c s)) (hbase : attributeBase o "count" X.env (eval o X.env) = eval o X.env := by rfl)
    (hfew : ((backTo cpos (starEach [e] X.env)).all (fun x => !x.1) && (backToKw cpos (keywordEach [] X.env)).all (fun x => x.1.isSome)
      && decide ([e].length + ([] : List Keyword).length + (if ([] : List Keyword).isEmpty then 0 else 1) < 30)) = true := by rfl)
    (hline : (apos.endLine == cpos.line) = true := by rfl) (hst : starEach [e] X.env = (false, eval e X.env) :: starEach [] X.env := by rfl) (hpl : (backTo cpos (starEach [] X.env)).any (·.1) = false := by rfl) :
    PE X (.Call (.Attribute o "count" apos) [e] [] cpos) (vt c (s2 gCount so s)) :=
  pe_of (pe_bm PySem.F.plainAttrs_list PySem.F.slot_list_count PySem.F.type_list_count (id := "list.count") mt_cnt h (pa_cons he pa_nil hst) hbase hfew hline hst hpl) fun σ H Q ⟨F, ρ, I, d, ρ', e0, q⟩ => by
    obtain ⟨x, ρ1, y, e1, e2, e3⟩ := s2_inv e0
    unfold gCount at e3
    split at e3
    · rename_i xs
      split at e3
      · rename_i hf
        cases e3
        refine ⟨F, ρ, I, _, ρ1, e1, fun v H1 F1 x1 I1 r1 => ?_⟩
        cases r1 with
        | lst h1 rs =>
          refine ⟨.inl ⟨rfl, _, .of (I1.fh _ _ h1)⟩, F1, ρ1, I1, y, ρ', e2, fun v2 H2 F2 x2 I2 r2 => ?_⟩
          refine ⟨_, _, v2, rfl, rfl, .of (I2.fh _ _ (x2 _ _ h1)), flat_of r2 hf.1, flats_of rs hf.2, ?_⟩
          have := q (.int ((xs.countP fun a => eqF a y : Nat) : Int)) H2 F2 (x1.trans x2) I2 (.int _)
          rw [cnt_reps r2 hf.1 (rs.ext x2) hf.2]
          exact this
      · cases e3
    · cases e3
end
end VS
namespace VS
open PySem PySem.Spec PyProof.Rows L2
/-! a def that hands back a list of its own, made in a slot -/
def kRetO (i : Nat) : SS := fun ρ => match ρ[i]? with
  | some (.own ys) => some (.rm ys, ρ)
  | _ => none
section
variable {X : Cx} {c : Ctx}
theorem vs_retO {e : Expr} {i : Nat} {pos : Pos} (he : PE X e (tVar i)) : PS X (.Return (some e) pos) (vs c (kRetO i)) :=
  ps_of (ps_ret he) fun σ H E ⟨F, ρ, I, fl, ρ', e, q⟩ => by
    unfold kRetO at e
    split at e
    · rename_i ys hs
      cases e
      obtain ⟨ov, h1, z⟩ := I.sl i _ hs
      cases ov with
      | none => exact z.elim
      | some v =>
        obtain ⟨p, e2, c0, f0, us, a3, r⟩ := z
        cases e2
        exact ⟨_, h1, q p us σ _ F Ext.rfl' I c0 f0 a3 r⟩
    · cases e
end
end VS
namespace VS
open PySem PySem.Spec PyProof.Rows L2
/-! name = list(e), a list of one's own -/
def kOwnL (i : Nat) (s : SE) : SS := fun ρ => match s ρ with
  | some (.lst xs, ρ1) => some (.nx, ρ1.set i (.own xs))
  | some (.tup xs, ρ1) => some (.nx, ρ1.set i (.own xs))
  | _ => none
section
variable {X : Cx} {c : Ctx}
theorem vs_ownL {i : Nat} {x : Str} {e : Expr} {s : SE} {p p1 pos pos' : Pos} (hN : X.N.Nodup) (hm : X.mg "list" = none) (ha : PE X e (vt c s)) (hi : X.N[i]? = some x := by rfl) (hx : Loc X.env.scope x := by first | exact Or.inl rfl | exact Or.inr rfl)
    (hs : swapsWith (.Call (.Name "list" p) [e] [] p1) (some (.Name x pos')) pos.line X.env = pure false := by rfl) (hf : X.fn x = true ∨ X.env.scope.names.lookup x = some .local := by first | exact Or.inl rfl | exact Or.inr rfl)
    (hg : Gl X "list" := by rfl) (hst : starEach [e] X.env = (false, eval e X.env) :: starEach [] X.env := by rfl) (hpl : (backTo p1 (starEach [] X.env)).any (·.1) = false := by rfl) :
    PS X (.Assign [.Name x pos'] (.Call (.Name "list" p) [e] [] p1) pos) (vs c (kOwnL i s)) :=
  ps_of (ps_set hN hi hx (pe_callTy call_list_of hg hm bt_list (pa_cons ha pa_nil hst) (by decide) (by decide) hst hpl) hs hf) fun σ H E ⟨F, ρ, I, fl, ρ', e, q⟩ => by
    unfold kOwnL at e
    split at e
    · rename_i xs ρ1 e1
      cases e
      refine ⟨F, ρ, I, _, ρ1, e1, fun v H1 F1 x1 I1 r1 => ?_⟩
      cases r1 with
      | lst h1 rs =>
        refine ⟨_, _, rfl, .inl (.of (I1.fh _ _ h1)), fun p hp => ?_⟩
        exact q _ _ _ x1 (I1.fresh hp rs i)
    · rename_i xs ρ1 e1
      cases e
      refine ⟨F, ρ, I, _, ρ1, e1, fun v H1 F1 x1 I1 r1 => ?_⟩
      cases r1 with
      | tup h1 rs =>
        refine ⟨_, _, rfl, .inr (.of (I1.fh _ _ h1)), fun p hp => ?_⟩
        exact q _ _ _ x1 (I1.fresh hp rs i)
    · cases e
end
end VS
namespace VS
open PySem PySem.Spec PyProof.Rows L2
/-! name = [elt for tg in iter if ..], a list of one's own -/
theorem dicAt_nl {w : World} {b : Bool} {F H : Hp} {p : Addr} {ks : List NestedKey} {vs av : List V} (d : DicAt w b none F H p ks vs) (h : H p = some (.lst av)) : False := by
  cases b with
  | true =>
    obtain ⟨xs, d⟩ := d
    have e := d.at_
    rw [h] at e
    cases e
  | false =>
    obtain ⟨kvs, e, _⟩ := d
    rw [h] at e
    cases e
theorem comp_own {c : Ctx} {K : PySem.W.Frag} {it : SI} {t : Tg} {tt : SB} {e : SE} (σ : L2.St) (H : Hp) (Q : VK) (i0 : Nat) (h : ∃ F ρ, Ok c F H σ ρ ∧ ∃ out ρ', sComp it t tt e ρ = some (D.lst out, ρ') ∧ ∀ p H1 F1, Ext F F1 → Ok c F1 H1 (σ.set i0 (some (V.ref p))) (ρ'.set i0 (.own out)) → Q (.ref p) H1) : tLc (vi c it) (gT K t) (vbX c.G tt) (vtX c.G e) t.ix σ H Q := by
  obtain ⟨F, ρ, I, out, ρ', hs, q⟩ := h
  unfold sComp at hs
  split at hs
  · rename_i ds ρ1 e1
    split at hs
    · rename_i out2 ρ2 e2
      split at hs
      · rename_i hlen
        cases hs
        refine ⟨F, ρ, I, ds, ρ1, e1, fun J H1 F1 x1 I1 y D hD => ?_⟩
        have I1' := I1.grow (Grow.raw (o := .lst []) I1.fh hD)
        have hDF : F1 D = none := ext_none I1.fh hD
        have hD0 : c.H0 D = none := by
          cases z : c.H0 D with
          | none => rfl
          | some o => obtain ⟨o', z'⟩ := I1.al D o z; rw [hD] at z'; cases z'
        have apart : ∀ p, p ∈ mutA σ ρ1 → p ≠ D := fun p hp z => by
          obtain ⟨i, xs, k1, k2⟩ := mem_mutA.mp hp
          have : conM ρ1 i = some xs := by unfold conM; rcases k1 with k1 | k1 <;> rw [k1]
          obtain ⟨p', vs, g1, g2, _⟩ := I1.own this
          rw [k2] at g1; cases g1
          rw [z, hD] at g2; cases g2
        refine ⟨fun i m H => m = ds.length - i ∧ i ≤ ds.length ∧ ∃ F2 ρ2' acc av rest, Ok c F2 H σ ρ2' ∧ Ext F1 F2 ∧ H D = some (.lst av) ∧ F2 D = none ∧ Reps c.G F2 av acc ∧ cLoop t tt e (ds.drop i) ρ2' = some (rest, ρ') ∧ acc ++ rest = out ∧ (∀ p, p ∈ mutA σ ρ2' → p ≠ D),
          ⟨ds.length, by simp, Nat.zero_le _, F1, ρ1, [], [], out, I1', Ext.rfl', upd_same, hDF, .nil, e2, rfl, apart⟩, ?_⟩
        rintro i m H2 ⟨rfl, hi, F2, ρ3, acc, av, rest, I2, x2, hD2, hF2, r2, l2, ho, ap2⟩
        obtain ⟨y1, y2⟩ := y F2 H2 x2 I2.fh
        by_cases hlt : i < ds.length
        · rw [List.drop_eq_getElem_cons hlt] at l2
          obtain ⟨g1, g2⟩ := y1 i ds[i] (by simp [hlt])
          refine .inr ⟨g1, fun H => i + 1 ≤ ds.length ∧ ∃ F2 ρ2' acc av rest, Ok c F2 H σ ρ2' ∧ Ext F1 F2 ∧ H D = some (.lst av) ∧ F2 D = none ∧ Reps c.G F2 av acc ∧ cLoop t tt e (ds.drop (i + 1)) ρ2' = some (rest, ρ') ∧ acc ++ rest = out ∧ (∀ p, p ∈ mutA σ ρ2' → p ≠ D), fun H' ⟨h1, h2⟩ => ⟨ds.length - (i + 1), by omega, rfl, h1, h2⟩, fun x H' yy => ?_⟩
          obtain ⟨F3, g3, r3⟩ := g2 x H' yy
          have I3 := I2.grow g3
          have J3 := I3.enter t.ix
          have hD3 : H' D = some (.lst av) := g3.h _ _ hD2
          have hF3 : F3 D = none := g3.n _ _ hD2 hF2
          have nD : D ∉ mutA σ ρ3 := fun z => ap2 D z rfl
          -- the turn's own semantics
          unfold cLoop at l2
          have turn : okT t.ix ρ3 = true ∧ ∃ ρ4 b ρ5, tgt t ds[i] (blkR t.ix ρ3) = some ρ4 ∧ tt ρ4 = some (b, ρ5) ∧ ((b = true ∧ ∃ x ρ6 r xs, e ρ5 = some (x, ρ6) ∧ restore ρ3 ρ6 = some r ∧ cLoop t tt e (ds.drop (i + 1)) r = some (xs, ρ') ∧ rest = x :: xs) ∨
              (b = false ∧ ∃ r, restore ρ3 ρ5 = some r ∧ cLoop t tt e (ds.drop (i + 1)) r = some (rest, ρ'))) := by
            unfold turnC at l2
            by_cases k0 : okT t.ix ρ3 = true
            case neg => rw [if_neg k0] at l2; cases l2
            rw [if_pos k0] at l2
            refine ⟨k0, ?_⟩
            cases k1 : tgt t ds[i] (blkR t.ix ρ3) with
            | none => rw [k1] at l2; cases l2
            | some ρ4 =>
              rw [k1] at l2
              dsimp only at l2
              cases k2 : tt ρ4 with
              | none => rw [k2] at l2; cases l2
              | some p2 =>
                obtain ⟨b, ρ5⟩ := p2
                rw [k2] at l2
                refine ⟨ρ4, b, ρ5, rfl, k2, ?_⟩
                cases b with
                | true =>
                  dsimp only at l2
                  cases k3 : e ρ5 with
                  | none => rw [k3] at l2; cases l2
                  | some p3 =>
                    obtain ⟨x, ρ6⟩ := p3
                    rw [k3] at l2
                    dsimp only at l2
                    cases k4 : restore ρ3 ρ6 with
                    | none => rw [k4] at l2; cases l2
                    | some r =>
                      rw [k4] at l2
                      dsimp only [Option.map] at l2
                      cases k5 : cLoop t tt e (ds.drop (i + 1)) r with
                      | none => rw [k5] at l2; cases l2
                      | some p5 =>
                        obtain ⟨xs, ρ7⟩ := p5
                        rw [k5] at l2
                        cases l2
                        exact .inl ⟨rfl, x, ρ6, r, xs, rfl, k4, k5, rfl⟩
                | false =>
                  dsimp only at l2
                  cases k4 : restore ρ3 ρ5 with
                  | none => rw [k4] at l2; cases l2
                  | some r =>
                    rw [k4] at l2
                    exact .inr ⟨rfl, r, rfl, l2⟩
          obtain ⟨k0, ρ4, b, ρ5, k1, k2, k3⟩ := turn
          refine tgt_w J3 r3 k1 fun σ4 J4 w4 => ?_
          have hw : wipe σ4 t.ix = wipe σ t.ix := by
            rw [w4 t.ix fun _ z => z]
            apply List.ext_getElem?
            intro j
            rw [wipe_get, wipe_get, wipe_length]
            by_cases hj : j ∈ t.ix
            · simp [hj]
            · simp [hj]
          refine ⟨?_, F3, H', mutA σ ρ3, F3, ρ4, J4, b, ρ5, k2, fun H5 F5 x5 J5 => ?_⟩
          · exact hw
          -- where a slot of the block is one of ours it is none of the targets
          have nix : ∀ {ρz : Rho} {Fz Hz : Hp}, Ok ⟨c.G, F3, H', mutA σ ρ3⟩ Fz Hz σ4 ρz → ∀ (j : Nat) (xs ys : List VS.D), (ρ3[j]? = some (.own xs) ∨ ρ3[j]? = some (.bor xs)) → ρz[j]? = some (.bor ys) → j ∉ t.ix :=
            fun _ j xs ys hx _ => okT_no k0 hx
          have fin : ∀ {ρz r : Rho} {Fz Hz : Hp}, Ok ⟨c.G, F3, H', mutA σ ρ3⟩ Fz Hz σ4 ρz → restore ρ3 ρz = some r → Ok c Fz Hz σ r ∧ Hz D = some (.lst av) ∧ Fz D = none ∧ Ext F3 Fz ∧ (∀ p, p ∈ mutA σ r → p ≠ D) := fun {ρz r Fz Hz} Jz hr => by
            refine ⟨I3.leave Jz hw hr (nix Jz), Jz.fr _ _ hD3 nD nt_lst, Jz.n0 _ _ hD3 hF3, Jz.f0, fun p hp => ?_⟩
            obtain ⟨j, xs, m1, m2⟩ := mem_mutA.mp hp
            refine ap2 p (mem_mutA.mpr ?_)
            rcases m1 with m1 | m1
            · obtain ⟨s0, z1, z2⟩ := restore_get hr m1
              rcases z2 with ⟨z2, z3⟩ | ⟨zs, ys, _, ⟨z3, _⟩ | ⟨_, z4⟩⟩
              · exact absurd z2.symm (z3 _).1
              · exact ⟨j, zs, .inl (by rw [z1, z3]), m2⟩
              · cases z4
            · obtain ⟨s0, z1, z2⟩ := restore_get hr m1
              rcases z2 with ⟨z2, z3⟩ | ⟨zs, ys, _, ⟨_, z4⟩ | ⟨z3, _⟩⟩
              · exact absurd z2.symm (z3 _).2
              · cases z4
              · exact ⟨j, zs, .inr (by rw [z1, z3]), m2⟩
          rcases k3 with ⟨rfl, x, ρ6, r, xs, j1, j2, j3, j4⟩ | ⟨rfl, r, j2, j3⟩
          · refine iteT ⟨F3, H', mutA σ ρ3, F5, ρ5, J5, x, ρ6, j1, fun v H6 F6 x6 J6 r6 => ?_⟩
            obtain ⟨I6, hD6, hF6, x36, ap6⟩ := fin J6 j2
            have ra : Reps c.G F6 av acc := (r2.ext g3.f).ext x36
            have hz : av.length < sizeLine := by
              rw [ra.length]
              have : acc.length < out.length := by rw [← ho, j4]; simp
              have := ln_fit hlen
              omega
            refine ⟨av, hD6, hz, hlt, F6, r, acc ++ [x], av ++ [v], xs, ?_, (x2.trans g3.f).trans x36, upd_same, hF6, ra.append (.one r6), j3, by rw [← ho, j4]; simp, ap6⟩
            exact I6.other hD6 hF6 hD0 (fun z => ap6 _ z rfl) _
          · refine iteF ?_
            obtain ⟨I5, hD5, hF5, x35, ap5⟩ := fin J5 j2
            exact ⟨hlt, F5, r, acc, av, rest, I5, (x2.trans g3.f).trans x35, hD5, hF5, (r2.ext g3.f).ext x35, j3, ho, ap5⟩
        · have hi' : i = ds.length := by omega
          subst hi'
          rw [List.drop_length] at l2
          unfold cLoop at l2
          cases l2
          rw [List.append_nil] at ho
          subst ho
          refine .inl ⟨y2, ?_⟩
          refine q D H2 F2 (x1.trans x2) (I2.take hF2 hD2 hD0 (fun j s p hs hm hp z => ?_) r2 i0)
          subst z
          obtain ⟨ov, w1, w2⟩ := I2.sl j s hs
          rw [hp] at w1
          cases w1
          cases s with
          | no => cases hm
          | val d => cases hm
          | lam g0 => cases hm
          | own ys => exact ap2 _ (mem_mutA.mpr ⟨j, ys, .inl hs, hp⟩) rfl
          | bor ys => exact ap2 _ (mem_mutA.mpr ⟨j, ys, .inr hs, hp⟩) rfl
          | slf k fs => obtain ⟨p', e1, _, _, dx, gs, e2, _⟩ := w2; cases e1; rw [hD2] at e2; cases e2
          | dic b ks fs => obtain ⟨p', e1, _, _, vs, e2, _⟩ := w2; cases e1; exact dicAt_nl e2 hD2
      · cases hs
    · cases hs
  · cases hs
def kOwnLc (i : Nat) (s : SE) : SS := fun ρ => match s ρ with
  | some (.lst xs, ρ1) => some (.nx, ρ1.set i (.own xs))
  | _ => none
section
variable {X : Cx} {c : Ctx}
theorem vs_ownLc {i : Nat} {y : Str} {py : Pos} {elt tg iter : Expr} {ifs : List Expr} {scope : Scope} {own : List (Str × Nat)} {pos spos : Pos} {it : SI} {tt : SB} {e : SE} (t : Tg) (hc : X.calm = true) (hN : X.N.Nodup)
    (hi : PI X tg iter (vi c it)) (ok : BlkOk X.N X.env.scope scope own) (hix : own.map (·.2) = t.ix)
    (hg : ∀ (s : Shared) (H : Hp) (C : Addr) (cl : List (Str × Addr)) (fp : List Addr), PG (X.blk s H scope (compEnvC scope cl C X.env) fp) tg (gT X.K t))
    (ht : ∀ (s : Shared) (H : Hp) (C : Addr) (cl : List (Str × Addr)) (fp : List Addr) (F0 H0 : Hp) (B : List Addr), PTs (X.blk s H scope (compEnvC scope cl C X.env) fp) ifs (vb ⟨c.G, F0, H0, B⟩ tt))
    (he : ∀ (s : Shared) (H : Hp) (C : Addr) (cl : List (Str × Addr)) (fp : List Addr) (F0 H0 : Hp) (B : List Addr), PE (X.blk s H scope (compEnvC scope cl C X.env) fp) elt (vt ⟨c.G, F0, H0, B⟩ e))
    (hsw : swapsWith (.ListComp elt [⟨tg, iter, ifs, 0⟩] scope pos) (some (.Name y py)) spos.line X.env = pure true)
    (hy : X.N[i]? = some y := by rfl) (hyl : X.env.scope.names.lookup y = some .local := by rfl)
    (hs : ∀ x, foldedSetIterable iter X.env x = pure x := by intro _; rfl) : PS X (.Assign [.Name y py] (.ListComp elt [⟨tg, iter, ifs, 0⟩] scope pos) spos) (vs c (kOwnLc i (sComp it t tt e))) :=
  ps_of (ps_setLc hc hN hy hyl hsw hi ok hg (fun s H C cl fp => pts_X (ht s H C cl fp)) (fun s H C cl fp => pe_X (he s H C cl fp)) hs) fun σ H E q => by
    obtain ⟨F, ρ, I, fl, ρ', e1, q⟩ := q
    unfold kOwnLc at e1
    split at e1
    · rename_i xs ρ1 e2
      cases e1
      rw [hix]
      exact comp_own σ H _ i ⟨F, ρ, I, xs, ρ1, e2, fun p H1 F1 x1 I1 => q _ _ _ x1 I1⟩
    · cases e1
end
end VS
namespace VS
open PySem PySem.Spec PyProof.Rows L2
/-! a list of one's own is read: a slice of it, its length, is it empty -/
def sSlM (i : Nat) (lo hi : SO) : SE := fun ρ => match conM ρ i with
  | none => none
  | some _ => match lo ρ with
    | some (l, ρ2) => match hi ρ2 with
      | some (h, ρ3) => match conM ρ3 i with
        | some xs => some (.lst (cutD xs l h), ρ3)
        | none => none
      | none => none
    | none => none
def sLenM (i : Nat) : SE := fun ρ => match conM ρ i with
  | some xs => some (.int xs.length, ρ)
  | none => none
section
variable {X : Cx} {c : Ctx}
theorem ve_sliceM {a : Expr} {i : Nat} {lo hi : Option Expr} {sl sh : SO} {p2 pos} (ha : PE X a (tVar i)) (hl : PO X lo (vo c sl)) (hh : PO X hi (vo c sh)) : PE X (.Subscript a (.Slice lo hi none p2) pos) (vt c (sSlM i sl sh)) := by
  refine pe_of (pe_slice (sl_list.or sl_tupA) ha hl hh) fun σ H Q ⟨F, ρ, I, d, ρ', e, q⟩ => ?_
  unfold sSlM at e
  split at e
  · cases e
  · rename_i xs0 e0
    obtain ⟨p, vs0, h0, _⟩ := I.own e0
    split at e
    · rename_i l ρ2 e2
      split at e
      · rename_i h ρ3 e3
        split at e
        · rename_i xs e4
          cases e
          refine ⟨_, h0, F, ρ, I, l, ρ2, e2, fun H2 F2 x2 I2 => ⟨F2, ρ2, I2, h, ρ', e3, fun H3 F3 x3 I3 => ?_⟩⟩
          obtain ⟨p', vs, h1, h2, h3, h4⟩ := I3.own e4
          rw [h0] at h1
          cases h1
          have q' : Aft c.G F3 H3 (.lst (cutD xs l h)) Q := fun v H' F' g r => q v H' F' ((x2.trans x3).trans g.f) (I3.grow g) r
          exact .inl ⟨_, _, rfl, .of h2, fun p hp => q'.newL I3.fh (h4.cut _ _) p hp⟩
        · cases e
      · cases e
    · cases e
theorem ve_lenM {a : Expr} {i : Nat} {p pos : Pos} (hm : X.mg "len" = none) (ha : PE X a (tVar i)) (hg : Gl X "len" := by rfl)
    (he : starEach [a] X.env = (false, eval a X.env) :: starEach [] X.env := by rfl) (hpl : (backTo pos (starEach [] X.env)).any (·.1) = false := by rfl) : PE X (.Call (.Name "len" p) [a] [] pos) (vt c (sLenM i)) :=
  pe_of (pe_callB call_len hg hm bt_len (pa_cons ha pa_nil he) (by decide) (by decide) he hpl) fun σ H Q ⟨F, ρ, I, d, ρ', e, q⟩ => by
    unfold sLenM at e
    split at e
    · rename_i xs e0
      cases e
      obtain ⟨p, vs, h0, h2, h3, h4⟩ := I.own e0
      refine ⟨_, h0, ?_⟩
      refine ⟨_, _, rfl, .inl ⟨_, .of h2, rfl⟩, ?_⟩
      have := q (.int (xs.length : Nat)) H F Ext.rfl' I (.int _)
      rw [h4.length]
      exact this
    · cases e
end
end VS

set_option Elab.async false
set_option linter.all false
set_option maxRecDepth 100000
set_option maxHeartbeats 8000000
namespace VS
open PySem PySem.Spec PyProof.Rows L2
/-! max of three ints -/
def mx2 (i j : Int) : Int := if i < j then j else i
def gMax3 : GL
  | [.int i, .int j, .int k] => some (.int (mx2 (mx2 i j) k))
  | _ => none
section
variable {X : Cx} {c : Ctx}
theorem nuMax2_int (i j : Int) : nuMax2 (.int i) (.int j) = some (.int (mx2 i j)) := by
  have e : nuLt (.int i) (.int j) = some (decide (i < j)) := rfl
  unfold nuMax2 mx2
  rw [e, Option.map_some]
  by_cases h : i < j
  · rw [if_pos h, if_pos (by simpa using h)]
  · rw [if_neg h, if_neg (by simpa using h)]
theorem ca_max3 (hc : X.calm = true) : CaD c X (.builtin "max") gMax3 := car_of (call_max3Nu hc) fun xs H Q ⟨F, ds, d, e, r, hg, q⟩ => by
  unfold gMax3 at hg
  split at hg
  · rename_i i j k
    cases hg
    cases r with
    | cons r1 r2 =>
      cases r2 with
      | cons r2 r3 =>
        cases r3 with
        | cons r3 r4 =>
          cases r4; cases r1; cases r2; cases r3
          refine ⟨_, _, _, _, rfl, ?_, q.here e (.int _)⟩
          unfold nuMax3
          rw [nuMax2_int, Option.bind_some, nuMax2_int]
  · cases hg
end
end VS

set_option Elab.async false
set_option linter.all false
set_option maxRecDepth 100000
set_option maxHeartbeats 4000000
namespace VS
open PySem PySem.Spec PyProof.Rows L2
/-! walking through an object of one's own whose __iter__ hands back iter(self.field) -/
/-- a def's promise by the size of the heap at the entry -/
structure FnSz (P : Program) (w : World) (K : PySem.W.Frag) (mg : Str → Option Value) (base : Heap) (k : Nat) (f : Addr) (fd : FuncData) (ps : List Str) (sp : Nat → Sp) : Prop where
  len : ∀ n vs H Q E, sp n vs H Q E → vs.length = ps.length
  run : ∀ (A : Around) (outer : List Env) (s : Shared) (H : Hp) (args : Args) (us : List Value) (vs : List V) (Q : VK) (E : XK), Room k A → Env0 P w K mg base A outer s H → BindsTo s fd args (ps.zip us) → Vals vs us → sp s.heap.objs.size vs H Q E →
    codeAny (model P w) A (.call (.ref f) args) (CR CX0 outer P w H s Q E) s
theorem fn_sz {P : Program} {w : World} {K : PySem.W.Frag} {mg : Str → Option Value} {base : Heap} {x qual : Str} {st : Stmt} {f : Addr} {fd : FuncData} {N ps : List Str} {k : Nat} {sp : Nat → Sp} (F : Fun K x qual st f fd) (S : FnScope N ps (defScope st))
    (len : ∀ n vs H Q E, sp n vs H Q E → vs.length = ps.length)
    (hb : ∀ (cdv : Value) (A : Around) (outer : List Env) (s : Shared) (H : Hp) (vs : List V) (Q : VK) (E : XK), Room k (A.deeper (envOfC qual (defScope st) s.heap.objs.size f cdv)) → sp s.heap.objs.size vs H Q E →
      ∃ t, PSs (cxOf CX0 P w K mg base N qual (defScope st) f cdv A outer s H E).nox (defBody st) t ∧ t { nx := fun _ H' => Q .non H', rt := Q } (start N vs) H) : FnSz P w K mg base (k + 1) f fd ps sp := by
  obtain ⟨oc, od, kV, doc, pm, an, cdv, ct, osl, rfl, lk, hcd⟩ := F.ex
  refine ⟨len, fun A outer s H args us vs Q E hr e0 bt r hsp => ?_⟩
  have kin : K.In s.heap := e0.mod.kin.keeps fun b o e => (e0.bs b o e).1
  have names : ∀ y ∈ ps.zip us, (defScope st).names.lookup y.1 = some .local ∨ ((defScope st).names.lookup y.1 = some .cell ∧ ((cellsFrom (s.heap.objs.size + 1) (defScope st).names []).lookup y.1).isSome = true) := by
    rintro ⟨y, u⟩ hy
    exact (S.par y (List.of_mem_zip hy).1).imp id fun q => ⟨q, PySem.W.cellsFrom_some _ _ _ (.inl q)⟩
  refine codeAny_call_function hr.depth (kin _ _ lk) rfl S.co S.gen rfl (PySem.W.codeRec_of kin hcd) (bt _ _ _ _ (wpAny_newFunctionEnv_cells S.kind names fun env he s1 x1 => ?_))
  subst he
  obtain ⟨t, ht, hq⟩ := hb cdv A outer s H vs Q E (hr.deeper _) hsp
  have I := inv_start (CX := CX0) (P := P) (w := w) (K := K) (mg := mg) (base := base) (E := E) S hr.hd e0 (len _ _ _ _ _ hsp) r x1
  refine ⟨(e0.mod.nolimit.keeps fun b o e => (e0.bs b o e).1).keeps x1.toInCall.keep, codeAny_func (wpAny_mono ((PSs.nox ht).run [] s1 _ H _ I hq) (fun fl s' hs => ?_) fun _ _ z => z)⟩
  match fl, hs with
  | .ret _, ⟨v, _, H', J, rv, q⟩ => exact ⟨v, H', J.os, J.bare, J.base, J.hok, rv, q⟩
  | .next, ⟨_, H', J, q⟩ => exact ⟨.non, H', J.os, J.bare, J.base, J.hok, rfl, q⟩
  | .brk, ⟨_, _, _, q⟩ => exact q.elim
  | .cont, ⟨_, _, _, q⟩ => exact q.elim
/-- __iter__: an iterator over the list of a field -/
def spIt (G : Gx) (t fi : Nat) (n : Nat) : Sp := fun vs H Q _ => ∃ F fs ds, Ext F H ∧ TbOk G.T F H ∧ Reps G F vs [.ins t fs] ∧ fs[fi]? = some (.lst ds) ∧
  ∀ it l zs H' F', Keep G.T [] F H F' H' → H' it = none → n ≤ it → F' l = some (.lst zs) → Reps G F' zs ds → Q (.ref it) (upd H' it (ItO l it 0))
theorem itA {t fi : Nat} {fs : List D} {d : D} (h : fs[fi]? = some d) : aC (s1 (gFld t fi) (sV 0)) aN [.val (.ins t fs)] = some ([d], [.val (.ins t fs)]) := by
  have g : gFld t fi (.ins t fs) = some d := by
    show (if t = t then fs[fi]? else none) = _
    rw [if_pos rfl]
    exact h
  unfold aC s1 sV
  simp only [List.getElem?_cons_zero, g]
  rfl
theorem it_ok {P : Program} {w : World} {G : Gx} {mg : Str → Option Value} {base : Heap} {qual : Str} {st : Stmt} {f : Addr} {fd : FuncData} {N : List Str} {k t fi : Nat} {ea : Expr} {p1 p2 p3 : Pos} (F : Fun G.K "__iter__" qual st f fd) (S : FnScope N ["self"] (defScope st))
    (hbd : defBody st = [.Return (some (.Call (.Name "iter" p1) [ea] [] p2)) p3]) (hN : N.length = 1)
    (hm : mg "iter" = none) (hg : ∀ cdv A outer sh H E, Gl (cxOf CX0 P w G.K mg base N qual (defScope st) f cdv A outer sh H E).nox "iter")
    (hst : ∀ env, starEach [ea] env = (false, eval ea env) :: starEach [] env)
    (ha : ∀ (c : Ctx) (cdv : Value) (A : Around) (outer : List Env) (sh : Shared) (H : Hp) (E : XK), c.G = G → PA (cxOf CX0 P w G.K mg base N qual (defScope st) f cdv A outer sh H E).nox [ea] (va c (aC (s1 (gFld t fi) (sV 0)) aN))) :
    FnSz P w G.K mg base (k + 1) f fd ["self"] (spIt G t fi) := by
  refine fn_sz F S (fun n vs H Q E h => ?_) (fun cdv A outer sh H us Q E hr h => ?_)
  · obtain ⟨F0, fs, ds, _, _, a, _⟩ := h
    exact a.length
  · obtain ⟨F0, fs, ds, e, tb, a, hd, q⟩ := h
    rw [hbd]
    have av : ArgOk G F0 H [] us ([D.ins t fs].map .val) := .vals a
    have hl := a.length
    have o0 : Ok ⟨G, F0, H, []⟩ F0 H (start N us) [.val (.ins t fs)] := by
      have := ok_start e tb av (N.length - 1)
      unfold L2.start
      rw [hl, List.length_singleton]
      rw [hN] at this ⊢
      exact this
    have pa := ha ⟨G, F0, H, []⟩ cdv A outer sh H E rfl
    have pe := pe_callB (X := (cxOf CX0 P w G.K mg base N qual (defScope st) f cdv A outer sh H E).nox) (p := p1) (pos := p2) (x := "iter") ItX.call_iterN (hg cdv A outer sh H E) hm (by first | rfl | decide +kernel) pa (he := hst _) (hpl := rfl)
    refine ⟨_, pss_one (ps_ret (pos := p3) pe), F0, _, o0, _, _, itA hd, fun vs H' F' x' I' r' => ?_⟩
    obtain ⟨v, ev, rv⟩ := reps1 r'
    subst ev
    cases rv with
    | lst h1 rs =>
      refine ⟨_, _, rfl, .of (I'.fh _ _ h1), fun it hn hi => ?_⟩
      exact q it _ _ H' F' ⟨I'.f0, I'.fh, I'.fr, I'.al, I'.n0, fun _ => I'.tb⟩ hn hi h1 rs
structure CalIt (P : Program) (w : World) (G : Gx) (mg : Str → Option Value) (base : Heap) (t fi k : Nat) : Prop where
  ex : ∃ (f : Addr) (fd : FuncData), PySem.W.findIn G.K (.ref (G.cls t)) "__iter__" = some (some (.ref f)) ∧ PySem.W.isFn G.K (.ref f) = true ∧ Binds G.K fd ["self"] [] ∧ FnSz P w G.K mg base k f fd ["self"] (spIt G t fi)
section
variable {c : Ctx} {X : Cx} {tg : Expr}
theorem run_sz {A : Around} {k : Nat} {f : Addr} {fd : FuncData} {ps : List Str} {sp : Nat → Sp} {pins : List (Addr × Obj)} {σ : L2.St} {H : Hp} {s : Shared} {Q : VK} {us : List Value} {vs : List V} {E1 : Value → Shared → Prop} (F : FnSz X.prog X.w X.K X.mg X.base k f fd ps sp) (hr : Room k A) (hf : A.frames = X.A.frames) (hb : Binds X.K fd ps [])
    (I : Inv X pins σ H s) (r : Vals vs us) (h : sp s.heap.objs.size vs H Q E0) : wpAny (model X.prog X.w) A (call (.ref f) us) (EP X pins σ Q) E1 s := by
  have e0 : Env0 X.prog X.w X.K X.mg X.base A X.stack s H := by
    have e := I.env0
    exact ⟨by rw [hf]; exact e.frames, e.mod, e.bs, e.bsz, e.funs, e.frf, e.hok, e.bare⟩
  have b := hb s us I.kIn (by rw [List.append_nil, ← r.length]; exact F.len _ _ _ _ _ h)
  rw [List.append_nil] at b
  refine wpAny_call (codeAny_mono (F.run A X.stack s H ⟨us, []⟩ us vs Q E0 hr e0 b r h) fun r s' hq => ?_)
  match r, hq with
  | .error e, hq => exact hq.elim
  | .ok .next, hq => exact False.elim hq
  | .ok .brk, hq => exact False.elim hq
  | .ok .cont, hq => exact False.elim hq
  | .ok (.ret u), hq => exact I.after hq
/-- what __iter__ leaves: the iterator, known to be young -/
def ItAt (c : Ctx) (σ : L2.St) (ρ : Rho) (F : Hp) (n : Nat) (ds : List D) : VK := fun v H => ∃ it l zs H2 F2, v = .ref it ∧ H = upd H2 it (ItO l it 0) ∧ H2 it = none ∧ n ≤ it ∧ F2 l = some (.lst zs) ∧ Reps c.G F2 zs ds ∧ Ext F F2 ∧ Ok c F2 H2 σ ρ
theorem spIt_of {F H : Hp} {σ : L2.St} {ρ : Rho} {t fi n : Nat} {v : V} {fs ds : List D} (I : Ok c F H σ ρ) (r : Rep c.G F v (.ins t fs)) (hd : fs[fi]? = some (.lst ds)) : spIt c.G t fi n [v] H (ItAt c σ ρ F n ds) E0 :=
  ⟨F, fs, ds, I.fh, I.tb, .cons r .nil, hd, fun it l zs H' F' kp hn hi h1 rs => ⟨it, l, zs, H', F', rfl, rfl, hn, hi, h1, rs, kp.f, keep_lift I kp⟩⟩
/-- the loop's list: the field of the object -/
def iOwn (t fi : Nat) (a : SE) : SI := fun ρ => match a ρ with
  | some (.ins t' fs, ρ') => if t' = t then match fs[fi]? with
    | some (.lst ds) => some (ds, ρ')
    | _ => none
    else none
  | _ => none
theorem iOwn_inv {t fi : Nat} {a : SE} {ρ ρ' : Rho} {ds : List D} (h : iOwn t fi a ρ = some (ds, ρ')) : ∃ fs, a ρ = some (.ins t fs, ρ') ∧ fs[fi]? = some (.lst ds) := by
  unfold iOwn at h
  split at h
  · rename_i t' fs ρ1 e1
    split at h
    · rename_i ht
      split at h
      · rename_i ds' e2
        cases h
        subst ht
        exact ⟨fs, e1, e2⟩
      · cases h
    · cases h
  · cases h
theorem pi_own {e : Expr} {sa : SE} {t fi k : Nat} (C : CalIt X.prog X.w c.G X.mg X.base t fi k) (hK : X.K = c.G.K) (hr : Room k X.A) (ha : PE X e (vt c sa)) : PI X tg e (vi c (iOwn t fi sa)) := by
  obtain ⟨f, fd, h1, h2, h4, h5⟩ := C.ex
  rw [← hK] at h1 h2 h4 h5
  refine ⟨fun pins s σ H R I h => ?_⟩
  obtain ⟨F, ρ, J, ds, ρ', e1, q⟩ := h
  obtain ⟨fs, e2, e3⟩ := iOwn_inv e1
  refine thn (ha.run pins s σ H (fun v H1 => ∃ F1, Ext F F1 ∧ Ok c F1 H1 σ ρ' ∧ Rep c.G F1 v (.ins t fs)) I ⟨F, ρ, J, _, ρ', e2, fun v H' F' x' J' r' => ⟨F', x', J', r'⟩⟩) fun u s1 ⟨v, H1, I1, r1, F1, x1, J1, rp⟩ => ?_
  have sp := spIt_of (n := s1.heap.objs.size) J1 rp e3
  obtain ⟨a, dx, us, ea, hA, _⟩ := rp.ins_at
  subst ea
  obtain rfl : u = Value.ref a := r1
  obtain ⟨od, J2⟩ := inst_at I1 (J1.fh _ _ hA)
  obtain ⟨mm, hF⟩ := I1.fr
  refine PySem.W.owit_iter hF I1.ok.mod.kin J2 h1 h2 (thn (run_sz h5 hr rfl h4 I1 (.cons relA .nil) sp) fun w s2 z => ?_)
  obtain ⟨v, H', I2, rv, it, l, zs, H2, F2, rfl, rfl, hn, hi, hl, rs, x2, J3⟩ := z
  obtain rfl : w = Value.ref it := rv
  have hit : (upd H2 it (ItO l it 0)) it = some (ItO l it 0) := upd_same
  have eo := itO_get I2 hit
  have hT : s2.TypeIs (.ref it) "list_iterator" := ⟨_, eo, rfl⟩
  refine wpAny_specialOf (name := Str.ofString "__next__") hT slot_listiter_next.lookup ?_
  have st : s2.heap.IsListIter it l 0 := ⟨_, eo, rfl, rfl⟩
  have hit' := hit
  unfold ItO at hit'
  have yo : X.s_0.heap.objs.size ≤ it := Nat.le_trans I1.sz hi
  have I3 := ItX.inv_drop I2 hit'
  have F3 := ItX.inv_fp I2 hit yo
  rw [ItX.dropH_upd hn] at I3 F3
  refine ⟨it, [it], _, _, H2, rfl, I3, turn_list l it, st, fun b hb => ?_, ?_⟩
  · have e : b = it := by simpa using hb
    rw [e]
    exact F3
  · exact q _ _ F2 (x1.trans x2) J3 (hK ▸ yields_list hl rs)
end
end VS

set_option Elab.async false
set_option linter.all false
set_option maxRecDepth 100000
set_option maxHeartbeats 4000000
namespace VS
open PySem PySem.Spec PyProof.Rows L2 PySem.Calls
/-! list(x) of an object of one's own with __iter__ and __len__ -/
section
variable {X : Cx} {pins : List (Addr × Obj)} {σ : L2.St} {H : Hp} {s s' : Shared}
theorem ln_lt {n : Nat} (h : n ≤ LN) : n < sizeLine := Nat.lt_of_le_of_lt h (by rw [sizeLine_eq]; decide)
theorem fp_acc {q it : Addr} {x y : HO} (h : FpOk X pins (upd H q x) it) : FpOk X pins (upd H q y) it := by
  obtain ⟨a, b⟩ := h
  refine ⟨?_, b⟩
  have n : it ≠ q := fun z => by rw [z, upd_same] at a; cases a
  rw [upd_ne n] at a ⊢
  exact a
theorem it_loop {A1 : Around} {q it l : Addr} {zs : List V} {Rs : Result → Shared → Prop} (hh : A1.in1.handled = none) (hl : zs.length ≤ LN) (ne : l ≠ q) (h3 : H l = some (.lst zs))
    (hdone : ∀ s, Inv X pins σ (upd H q (.lst zs)) s → Rs (.ok (.ret .none)) s) :
    ∀ (m i : Nat) (s : Shared), i + m = zs.length → Inv X pins σ (upd H q (.lst (zs.take i))) s → s.heap.IsListIter it l i → FpOk X pins (upd H q (.lst (zs.take i))) it →
      codeAny (model X.prog X.w) A1 (.builtin "list.extend.loop" ⟨[.ref q, .ref it, .none], []⟩) Rs s
  | 0, i, s, hm, I, st, fp => by
    refine codeAny_builtin PySem.F.entry_extend_loop ?_
    rw [Around.under_plainId PySem.F.plain_extend_loop _]
    show wpAny _ A1.in1 (pyNext (.ref it) >>= _) _ _ s
    have hL : SqL X.K (upd H q (.lst (zs.take i))) l zs := .of (by rw [upd_ne ne]; exact h3)
    obtain ⟨its, rv, p, hz⟩ := I.list hL
    obtain ⟨f0, f1, f2, f3, f4, f5⟩ := fp
    have hlen := rv.length
    refine wpAny_bind (wpAny_pyNext_list_end hh st p.isList (by simp; omega) fun h' eb => ?_)
    refine wpAny_pure (hdone _ ?_)
    have I1 := I.turned (t' := s.toks) (fun b o hb e => eb b o hb e) f0 f1 f3 f4 f5
    have e : zs.take i = zs := List.take_of_length_le (by omega)
    rw [e] at I1
    exact I1
  | m + 1, i, s, hm, I, st, fp => by
    refine codeAny_builtin PySem.F.entry_extend_loop ?_
    rw [Around.under_plainId PySem.F.plain_extend_loop _]
    show wpAny _ A1.in1 (pyNext (.ref it) >>= _) _ _ s
    have hL : SqL X.K (upd H q (.lst (zs.take i))) l zs := .of (by rw [upd_ne ne]; exact h3)
    obtain ⟨its, rv, p, hz⟩ := I.list hL
    have fp0 := fp
    obtain ⟨f0, f1, f2, f3, f4, f5⟩ := fp
    have hx : zs[i]? = some (zs[i]'(by omega)) := List.getElem?_eq_getElem (by omega)
    obtain ⟨u, hu, ru⟩ := rv.get hx
    have niq : it ≠ q := fun z => by rw [z, upd_same] at f0; cases f0
    refine wpAny_bind (wpAny_pyNext_list_item st p.isList (x := u) (by simpa using hu) fun h' st' sb => ?_)
    have I1 : Inv X pins σ (upd H q (.lst (zs.take i))) { s with heap := h' } := I.turned (t' := s.toks) (fun b o hb e => (sb.2 b hb).trans e) f0 f1 f3 f4 f5
    show wpAny _ A1.in1 (updateSeq q (·.push u) >>= _) _ _ _
    obtain ⟨z, its2, k2, r2, hl2, e2⟩ := I1.lstM (l := q) upd_same
    have hi : (zs.take i).length = i := by rw [List.length_take]; omega
    have s1 : its2.length = i := by rw [← hl2, hi]
    have big : i + 1 ≤ sizeLine := ln_fit (by omega)
    refine wpAny_bind (wpAny_updateSeq e2 rfl (wpAny_pure ⟨plainId_quiet PySem.F.plain_extend_loop _, ?_⟩) (by rw [List.size_toArray]; omega) (by show (its2.toArray.push u).size ≤ sizeLine + 1; rw [Array.size_push, List.size_toArray]; omega))
    have et : zs.take (i + 1) = zs.take i ++ [zs[i]'(by omega)] := List.take_succ_eq_append_getElem (by omega)
    have I2 := I1.lset (f := (·.push u)) (its' := its2 ++ [u]) (ys := zs.take (i + 1)) (t' := s.toks) upd_same e2 (by simp) (by rw [et]; exact r2.append (.cons ru .nil)) (by rw [List.length_take]; exact ln_fit (Nat.le_trans (Nat.min_le_right _ _) hl))
    rw [upd_upd] at I2
    refine it_loop hh hl ne h3 hdone m (i + 1) _ (by omega) I2 (st'.at fun o e => (Heap.get?_update_other h' (Obj.mapSeq _) (Ne.symm niq)).trans e) (fp_acc fp0)
theorem hint_own {prog : Program} {w : World} {A1 : Around} {E : Value → Shared → Prop} {Q : Bool → Shared → Prop} {K : PySem.W.Frag} {a C g L : Addr} {h₀ : Heap} {mm : Str → Option Value} {ox : Obj} {od : Option Obj} {s : Shared} (F : Fr h₀ L s.heap mm) (X₀ : K.In h₀) (J : PySem.W.InstAt s.heap a ox C od)
    (hs : PySem.W.findIn K (.ref C) "__len__" = some (some (.ref g))) (hf : PySem.W.isFn K (.ref g) = true)
    (h : wpAny (model prog w) A1.in1 (call (.ref g) [.ref a]) (PySem.W.LenBack (fun v s' => ∃ n t, v = .int n t ∧ 0 ≤ n ∧ n ≤ (LN : Int) ∧ Q (n != 0) s')) (fun _ _ => False) s) : wpAny (model prog w) A1 (Builtin.List.listLengthHint (.ref a)) Q E s := by
  unfold Builtin.List.listLengthHint
  refine wpAny_bind (wpAny_bind (J.type.here ((PySem.W.looks_findIn (X₀.keeps F.keep) hs).here ?_)))
  refine PySem.W.KFB.if_not rfl ?_
  refine wpAny_bind (wpAny_rule ?_)
  refine wpAny_bind (wpAny_attempt (PySem.W.len_K F X₀ J hs hf (wpAny_mono h (fun v s' hv => ?_) fun e s' z => ?_)))
  · cases v with
    | int n t =>
      obtain ⟨h1, n2, t2, e, n0, n1, q⟩ := hv
      refine ⟨h1, ?_⟩
      cases e
      refine wpAny_bind (m := asInt? _) (wpAny_of_eq (a := some n) (by rfl) ?_)
      exact PySem.W.KFB.if_not (notLongL (ln_fit (by omega))) (wpAny_pure q)
    | _ => exact hv.elim
  · exact z.elim
end
section
variable {c : Ctx} {X : Cx}
theorem run_atE {A : Around} {k : Nat} {f : Addr} {fd : FuncData} {ps : List Str} {sp : Sp} {pins : List (Addr × Obj)} {σ : L2.St} {H : Hp} {s : Shared} {Q : VK} {us : List Value} {vs : List V} {E1 : Value → Shared → Prop} (F : FnOk X.prog X.w X.K X.mg X.base CX0 k f fd ps sp) (hr : Room k A) (hf : A.frames = X.A.frames) (hb : Binds X.K fd ps [])
    (I : Inv X pins σ H s) (r : Vals vs us) (h : sp vs H Q E0) : wpAny (model X.prog X.w) A (call (.ref f) us) (EP X pins σ Q) E1 s := by
  have e0 : Env0 X.prog X.w X.K X.mg X.base A X.stack s H := by
    have e := I.env0
    exact ⟨by rw [hf]; exact e.frames, e.mod, e.bs, e.bsz, e.funs, e.frf, e.hok, e.bare⟩
  have b := hb s us I.kIn (by rw [List.append_nil, ← r.length]; exact F.len _ _ _ _ h)
  rw [List.append_nil] at b
  refine wpAny_call (codeAny_mono (F.run A X.stack s H ⟨us, []⟩ us vs Q E0 hr e0 b r h) fun r s' hq => ?_)
  match r, hq with
  | .error e, hq => exact hq.elim
  | .ok .next, hq => exact False.elim hq
  | .ok .brk, hq => exact False.elim hq
  | .ok .cont, hq => exact False.elim hq
  | .ok (.ret u), hq => exact I.after hq
/-- what list(x) promises: a new list of the field's items -/
def rLO (G : Gx) (t fi : Nat) (ml : Mir) : List V → Hp → VK → Prop := fun xs H Q => ∃ F fs ds n oo, Ext F H ∧ TbOk G.T F H ∧ Reps G F xs [.ins t fs] ∧ fs[fi]? = some (.lst ds) ∧ ml [.val (.ins t fs)] = some (.int n, oo) ∧ 0 ≤ n ∧ n ≤ (LN : Int) ∧ ds.length ≤ LN ∧
  ∀ p zs H' F', Keep G.T [] F H F' H' → H p = none → H' p = none → F' p = none → Reps G F' zs ds → Q (.ref p) (upd H' p (.lst zs))
theorem tb_upd {T : List (Addr × Str)} {F H : Hp} {q : Addr} {o : HO} (t : TbOk T F H) (h : H q = none) : TbOk T F (upd H q o) :=
  t.ext (fun p o e => by rw [upd_ne (fun z => by rw [z, h] at e; cases e)]; exact e) fun _ _ _ n => n
theorem tb_drop {T : List (Addr × Str)} {F H : Hp} {q : Addr} {o : HO} (t : TbOk T F H) (h : H q = some o) (nt : ∀ ps, o ≠ .tbl ps) (nc : ∀ c q, o ≠ LamX.CodeO c q) : TbOk T F (ItX.dropH H q) :=
  ⟨tabs_mod t.t fun b u e k => by
    have z : b ≠ q := fun z => by
      rw [z, h] at e
      cases e
      rcases k with ⟨ps, k⟩ | ⟨c, q, k⟩
      · exact nt ps k
      · exact nc c q k
    rw [ItX.dropH_ne z]
    exact e, t.n⟩
theorem keep_drop {T : List (Addr × Str)} {F H F' H' : Hp} {q : Addr} {o : HO} (e : Ext F H) (hq : H q = none) (k : Keep T [] F (upd H q o) F' H') (nt : ∀ ps, o ≠ .tbl ps) (nc : ∀ c q, o ≠ LamX.CodeO c q) : Keep T [] F H F' (ItX.dropH H' q) := by
  have up : ∀ {p : Addr} {u : HO}, H p = some u → p ≠ q ∧ upd H q o p = some u := fun {p u} h => by
    have z : p ≠ q := fun z => by rw [z, hq] at h; cases h
    exact ⟨z, by rw [upd_ne z]; exact h⟩
  have nq : F' q = none := k.n q o upd_same (ext_none e hq)
  refine ⟨k.f, fun p u h => ?_, fun p u h hb n => ?_, fun p u h => ?_, fun p u h n => k.n p u (up h).2 n, fun t => tb_drop (k.t (tb_upd t hq)) (k.h q o upd_same (by simp) nt) nt nc⟩
  · have z : p ≠ q := fun z => by rw [z, nq] at h; cases h
    rw [ItX.dropH_ne z]
    exact k.fh _ _ h
  · rw [ItX.dropH_ne (up h).1]
    exact k.h p u (up h).2 hb n
  · rw [ItX.dropH_ne (up h).1]
    exact k.a p u (up h).2
theorem nc_ito {h : Heap} {l it : Addr} {i : Nat} (hp : h.get? it = some (GNX.itObj l i)) : ∀ c q, ItO l it i ≠ LamX.CodeO c q := fun c q z => by
  unfold ItO LamX.CodeO at z
  have z := HO.ext.inj z
  by_cases e : c = it
  · subst e
    have w := congrFun z h
    rw [eq_iff_iff] at w
    obtain ⟨oc, vs, t, h1, h2, h3⟩ := w.mp hp
    rw [hp] at h1
    cases h1
    cases h2
    cases h3
  · obtain ⟨G, g1, g2⟩ := restrict h fun b => decide (b = it)
    have w := congrFun z G
    rw [eq_iff_iff] at w
    obtain ⟨oc, vs, t, h1, _⟩ := w.mp ((g1 it (by simp)).trans hp)
    rw [g2 c (by simpa using e)] at h1
    cases h1
theorem call_listO {t fi k : Nat} {ml : Mir} (C : CalIt X.prog X.w c.G X.mg X.base t fi k) (L : CalO X.prog X.w c.G X.mg X.base t "__len__" k 1 ml) (hK : X.K = c.G.K) (hr : Room (k + 3) X.A) (hc : X.calm = true) : CallR X (.type "list") (rLO c.G t fi ml) := by
  obtain ⟨f, fd, h1, h2, h4, h5⟩ := C.ex
  obtain ⟨g, gd, ps, l1, l2, l3, l4, l5⟩ := L.ex
  rw [← hK] at h1 h2 h4 h5 l1 l2 l4 l5
  intro pins s σ H xs us Q I rv h
  obtain ⟨F, fs, ds, n, oo, e, tb, rp, hd, hm, n0, n1, hl, q⟩ := h
  cases rp with
  | cons r1 r2 =>
  cases r2
  rename_i v
  obtain ⟨a, dx, ws, ea, hA, _⟩ := r1.ins_at
  subst ea
  obtain ⟨u, rfl, ru⟩ := rv.one
  cases ru
  refine callType_codes (Q₁ := fun obj s₁ => obj = .ref s.heap.objs.size ∧ s₁ = { s with heap := s.heap.push { cls := .type "list", data := .seq #[] } }) PySem.F.called_list (PySem.F.typeCall_list_1 _) PySem.F.entry_list_init
    (code_list_new _ ⟨rfl, rfl⟩) fun obj s₁ hs₁ => ?_
  obtain ⟨rfl, rfl⟩ := hs₁
  have hS : (s.heap.push { cls := .type "list", data := .seq #[] }).get? s.heap.objs.size = some { cls := .type "list", data := .seq #[] } := Heap.get?_push_size _ rfl
  refine ⟨⟨_, hS, rfl⟩, PySem.F.args_list_init_2 _ _, ?_⟩
  have fr : H s.heap.objs.size = none := I.hok.fresh (Nat.le_refl _)
  have I1 : Inv X pins σ (upd H s.heap.objs.size (.lst [])) { s with heap := s.heap.push { cls := .type "list", data := .seq #[] } } := I.lnew (its := []) (t' := s.toks) .nil (Nat.zero_le _)
  show wpAny _ _ (do let old ← Builtin.List.listItems (.ref s.heap.objs.size); Builtin.List.listUpdate (.ref s.heap.objs.size) (fun _ => #[]); letGo old.toList.reverse; Builtin.List.listExtendWith (.ref s.heap.objs.size) (.ref a) .none) _ _ _
  refine wpAny_bind ?_
  unfold Builtin.List.listItems
  refine wpAny_bind (wpAny_seqItems hS rfl (wpAny_pure ?_))
  show wpAny _ _ (updateSeq s.heap.objs.size (fun _ => #[]) >>= fun _ => letGo (#[] : Array Value).toList.reverse >>= fun _ => Builtin.List.listExtendWith (.ref s.heap.objs.size) (.ref a) .none) _ _ _
  refine wpAny_bind (wpAny_updateSeq hS rfl ?_)
  have I2 := I1.lset (f := fun _ => #[]) (its := []) (its' := []) (ys := []) (t' := s.toks) upd_same hS rfl .nil (Nat.zero_le _)
  rw [upd_upd] at I2
  refine wpAny_bind (wpAny_letGo ?_)
  generalize hq0 : s.heap.objs.size = q0 at *
  generalize hs2 : ({ s with heap := (s.heap.push { cls := .type "list", data := .seq #[] }).update q0 (Obj.mapSeq fun _ => #[]) } : Shared) = s2 at *
  have hA0 : H a = some (.ins (c.G.cls t) dx ws) := e _ _ hA
  have ne : q0 ≠ a := fun z => by rw [← z, fr] at hA0; cases hA0
  have hA2 : upd H q0 (.lst []) a = some (.ins (c.G.cls t) dx ws) := by rw [upd_ne (Ne.symm ne)]; exact hA0
  have e2 : Ext F (upd H q0 (.lst [])) := e.trans (Ext.upd fr)
  have tb2 : TbOk c.G.T F (upd H q0 (.lst [])) := tb_upd tb fr
  obtain ⟨od, J⟩ := inst_at I2 hA2
  obtain ⟨mm, hF⟩ := I2.fr
  unfold Builtin.List.listExtendWith
  refine wpAny_bind (J.type.here ?_)
  have z1 : Builtin.List.listSameRef (.ref q0) (.ref a) = false := by simp [Builtin.List.listSameRef, ne]
  have z2 : (Value.ref (c.G.cls t) == Value.type "list") = false := rfl
  have z3 : (Value.ref (c.G.cls t) == Value.type "tuple") = false := rfl
  simp only [z1, z2, z3, Bool.or_false, Bool.false_eq_true, if_false]
  have sp : spIt c.G t fi s2.heap.objs.size [.ref a] (upd H q0 (.lst [])) (fun v H3 => ∃ it l zs H' F', v = .ref it ∧ H3 = upd H' it (ItO l it 0) ∧ H' it = none ∧ s2.heap.objs.size ≤ it ∧ F' l = some (.lst zs) ∧ Reps c.G F' zs ds ∧ Keep c.G.T [] F (upd H q0 (.lst [])) F' H') E0 :=
    ⟨F, fs, ds, e2, tb2, .cons r1 .nil, hd, fun it l zs H' F' kp hn hi h1 rs => ⟨it, l, zs, H', F', rfl, rfl, hn, hi, h1, rs, kp⟩⟩
  refine wpAny_bind (PySem.W.owit_iter hF I2.ok.mod.kin J h1 h2 (thn (run_sz h5 (hr.in1.in1.mono (Nat.le_succ k)) rfl h4 I2 (.cons relA .nil) sp) fun w s3 z => ?_))
  obtain ⟨v, H3', I3, rv3, it, l, zs, H3, F3, rfl, rfl, hn, hi, hl3, rs, kp⟩ := z
  obtain rfl : w = Value.ref it := rv3
  have hit : (upd H3 it (ItO l it 0)) it = some (ItO l it 0) := upd_same
  have hT : s3.TypeIs (.ref it) "list_iterator" := ⟨_, itO_get I3 hit, rfl⟩
  refine wpAny_specialOf (name := Str.ofString "__next__") hT slot_listiter_next.lookup ?_
  show wpAny _ _ _ _ _ _
  have nt : ∀ ps, ItO l it 0 ≠ .tbl ps := fun ps z => by unfold ItO at z; cases z
  have e3 : Ext F3 (upd H3 it (ItO l it 0)) := kp.fh.trans (Ext.upd hn)
  have tb3 : TbOk c.G.T F3 (upd H3 it (ItO l it 0)) := tb_upd (kp.t tb2) hn
  have hA3 : (upd H3 it (ItO l it 0)) a = some (.ins (c.G.cls t) dx ws) := e3 _ _ (kp.f _ _ hA)
  obtain ⟨od3, J3⟩ := inst_at I3 hA3
  obtain ⟨mm3, hF3⟩ := I3.fr
  have spl : spV c.G 1 ml [.ref a] (upd H3 it (ItO l it 0)) (fun v H' => ∃ F', v = .int n ∧ Keep c.G.T [] F3 (upd H3 it (ItO l it 0)) F' H') E0 :=
    ⟨F3, [], [.val (.ins t fs)], e3, tb3, .vals (ds := [.ins t fs]) (.cons (r1.ext kp.f) .nil), rfl, _, _, hm, fun v H' F' kp' _ rv' => ⟨F', rv'.int_inv, kp'⟩⟩
  refine wpAny_bind (wpAny_holding (hint_own hF3 I3.ok.mod.kin J3 l1 l2 (wpAny_mono (run_atE l5 hr.in1.in1.in1 rfl l4 I3 (.cons relA .nil) spl) (fun w' s4 z => ?_) fun _ _ z => z)))
  obtain ⟨z', H4, I4, rz, F4, en, kp4⟩ := z
  subst en
  obtain ⟨tk, rfl⟩ := rz
  refine ⟨⟨n0, Int.lt_of_le_of_lt n1 (by decide)⟩, n, _, rfl, n0, n1, ?_⟩
  have hi4 : H4 it = some (ItO l it 0) := kp4.h it _ upd_same (by simp) nt
  have eo4 := itO_get I4 hi4
  have nci := nc_ito eo4
  have st4 : s4.heap.IsListIter it l 0 := ⟨_, eo4, rfl, rfl⟩
  have yo : X.s_0.heap.objs.size ≤ it := Nat.le_trans I2.sz hi
  have hi4' := hi4
  unfold ItO at hi4'
  have I5 := ItX.inv_drop I4 hi4'
  have fp5 := ItX.inv_fp I4 hi4' yo
  have kp5 := keep_drop kp.fh hn kp4 nt nci
  have kp6 := kp.trans kp5
  generalize hH5 : ItX.dropH H4 it = H5 at *
  have hq5 : H5 q0 = some (.lst []) := kp6.h q0 _ upd_same (by simp) (fun ps z => by cases z)
  have kp7 := keep_drop e fr kp6 (fun ps z => by cases z) nc_lst
  have eH : upd (ItX.dropH H5 q0) q0 (.lst []) = H5 := by
    funext b
    by_cases hb : b = q0
    · rw [hb, upd_same, hq5]
    · rw [upd_ne hb, ItX.dropH_ne hb]
  have hl6 : (ItX.dropH H5 q0) l = some (.lst zs) := kp7.fh _ _ (kp5.f _ _ hl3)
  have nlq : l ≠ q0 := fun z => by rw [z, ItX.dropH_same] at hl6; cases hl6
  have zl : zs.length ≤ LN := by rw [rs.length]; exact hl
  have fin : ∀ s5 : Shared, Inv X pins σ H5 s5 → s5.heap.IsListIter it l 0 → codeAny (model X.prog X.w) X.A.in1 (.builtin "list.extend.loop" ⟨[.ref q0, .ref it, .none], []⟩) (wants (fun r s₂ => r = .none ∧ EP X pins σ Q (.ref q0) s₂) X.xe) s5 := fun s5 J5 st5 => by
    refine it_loop (A1 := X.A.in1) (H := ItX.dropH H5 q0) (Rs := wants (fun r s₂ => r = .none ∧ EP X pins σ Q (.ref q0) s₂) X.xe) (show X.A.in1.in1.handled = none from I.ok.hd hc) zl nlq hl6 (fun s6 J6 => ⟨rfl, .ref q0, _, J6, rfl, ?_⟩) zs.length 0 s5 (by omega) (by rw [List.take_zero, eH]; exact J5) st5 (by rw [List.take_zero, eH]; exact fp5)
    exact q q0 zs _ F4 kp7 fr ItX.dropH_same (kp6.n q0 _ upd_same (ext_none e fr)) (rs.ext kp5.f)
  have I6 := I5.tok (s4.toks + 1)
  refine wpAny_ite_split (fun _ => ?_) (fun _ => wpAny_pure ⟨plainId_quiet PySem.F.plain_extend_loop _, fin _ I6 st4⟩)
  refine wpAny_bind (wpAny_rule ?_)
  refine wpAny_bind ?_
  show wpAny _ _ (updateSeq q0 (·.push .none) >>= fun _ => updateSeq q0 (·.pop)) _ _ _
  obtain ⟨z, its, k6, r3, hl6', e6⟩ := I6.lstM hq5
  cases r3
  refine wpAny_bind (wpAny_updateSeq e6 rfl ?_)
  have I7 := I6.lset (f := (·.push Value.none)) (its' := [Value.none]) (ys := [.non]) (t' := s4.toks + 1) hq5 e6 (by simp) (.cons rfl .nil) (by rw [List.length_singleton, sizeLine_eq]; decide)
  obtain ⟨z4, its4, k4, r4, hl4, e4⟩ := I7.lstM (l := q0) upd_same
  obtain ⟨u4, rfl, ru4⟩ := r4.one
  refine wpAny_updateSeq e4 rfl ?_ (by show 1 ≤ sizeLine; rw [sizeLine_eq]; decide) (by show 0 ≤ sizeLine + 1; exact Nat.zero_le _)
  have I8 := I7.lset (f := (·.pop)) (its := [u4]) (its' := []) (ys := []) (t' := s4.toks + 1) upd_same e4 (by rfl) .nil (Nat.zero_le _)
  rw [upd_upd] at I8
  have eH5 : upd H5 q0 (.lst []) = H5 := by
    funext b
    by_cases hb : b = q0
    · rw [hb, upd_same, hq5]
    · rw [upd_ne hb]
  rw [eH5] at I8
  have niq : it ≠ q0 := fun z => by
    have := fp5.1
    rw [z, hq5] at this
    cases this
  have st8 := (st4.at fun o e => (Heap.get?_update_other s4.heap (Obj.mapSeq (·.push Value.none)) (Ne.symm niq)).trans e)
  exact wpAny_pure ⟨plainId_quiet PySem.F.plain_extend_loop _, fin _ I8 (st8.at fun o e => (Heap.get?_update_other _ (Obj.mapSeq (·.pop)) (Ne.symm niq)).trans e)⟩
/-- list(x) -/
def sListO (t fi : Nat) (ml : Mir) (a : SE) : SE := fun ρ => match a ρ with
  | some (.ins t' fs, ρ1) => if t' = t then match fs[fi]?, ml [.val (.ins t fs)] with
    | some (.lst ds), some (.int n, _) => if 0 ≤ n ∧ n ≤ (LN : Int) ∧ ds.length ≤ LN then some (.lst ds, ρ1) else none
    | _, _ => none
    else none
  | _ => none
theorem sListO_inv {t fi : Nat} {ml : Mir} {a : SE} {ρ ρ1 : Rho} {d : D} (h : sListO t fi ml a ρ = some (d, ρ1)) : ∃ fs ds n oo, a ρ = some (.ins t fs, ρ1) ∧ d = .lst ds ∧ fs[fi]? = some (.lst ds) ∧ ml [.val (.ins t fs)] = some (.int n, oo) ∧ 0 ≤ n ∧ n ≤ (LN : Int) ∧ ds.length ≤ LN := by
  unfold sListO at h
  split at h
  · rename_i t' fs ρ2 e1
    split at h
    · rename_i ht
      split at h
      · rename_i ds n oo e2 e3
        split at h
        · rename_i hh
          cases h
          subst ht
          exact ⟨fs, ds, n, oo, e1, rfl, e2, e3, hh.1, hh.2.1, hh.2.2⟩
        · cases h
      · cases h
    · cases h
  · cases h
theorem listO_w {t fi : Nat} {ml : Mir} {sb : SE} (σ : L2.St) (H : Hp) (Q : VK) {F : Hp} {ρ ρ1 : Rho} {ds : List D} (I : Ok c F H σ ρ) (h : sListO t fi ml sb ρ = some (.lst ds, ρ1))
    (q : ∀ p zs H' F', Ext F F' → Ok c F' H' σ ρ1 → H' p = none → Reps c.G F' zs ds → Q (.ref p) (upd H' p (.lst zs))) :
    vt c sb σ H fun v H1 => rLO c.G t fi ml [v] H1 Q := by
  obtain ⟨fs, ds', n, oo, e1, ed, e2, e3, h1, h2, h3⟩ := sListO_inv h
  cases ed
  refine ⟨F, ρ, I, _, ρ1, e1, fun v H' F' x' J' r' => ?_⟩
  exact ⟨F', fs, ds, n, oo, J'.fh, J'.tb, .cons r' .nil, e2, e3, h1, h2, h3, fun p zs H2 F2 kp p0 p1 p2 rs => q p zs H2 F2 (x'.trans kp.f) (keep_lift J' kp) p1 rs⟩
theorem ve_listO {e : Expr} {sb : SE} {t fi k : Nat} {ml : Mir} {p p1 : Pos} (C : CalIt X.prog X.w c.G X.mg X.base t fi k) (L : CalO X.prog X.w c.G X.mg X.base t "__len__" k 1 ml) (hK : X.K = c.G.K) (hr : Room (k + 3) X.A) (hc : X.calm = true) (hm : X.mg "list" = none) (ha : PE X e (vt c sb))
    (hg : Gl X "list" := by rfl) (hst : starEach [e] X.env = (false, eval e X.env) :: starEach [] X.env := by rfl) (hpl : (backTo p1 (starEach [] X.env)).any (·.1) = false := by rfl) :
    PE X (.Call (.Name "list" p) [e] [] p1) (vt c (sListO t fi ml sb)) :=
  pe_of (pe_callTy (call_listO C L hK hr hc) hg hm bt_list (pa_cons ha pa_nil hst) (by decide) (by decide) hst hpl) fun σ H Q ⟨F, ρ, I, d, ρ', e, q⟩ => by
    obtain ⟨fs, ds, n, oo, e1, ed, _⟩ := sListO_inv e
    subst ed
    refine listO_w σ H Q I e fun p zs H' F' x' J' hp rs => ?_
    have g : Grow F' H' (upd F' p (.lst zs)) (upd H' p (.lst zs)) := .new J'.fh hp
    exact q _ _ _ (x'.trans g.f) (J'.grow g) (.lst upd_same (rs.ext g.f))
theorem vs_ownLO {i : Nat} {x : Str} {e : Expr} {sb : SE} {t fi k : Nat} {ml : Mir} {p p1 pos pos' : Pos} (C : CalIt X.prog X.w c.G X.mg X.base t fi k) (L : CalO X.prog X.w c.G X.mg X.base t "__len__" k 1 ml) (hK : X.K = c.G.K) (hr : Room (k + 3) X.A) (hc : X.calm = true)
    (hN : X.N.Nodup) (hm : X.mg "list" = none) (ha : PE X e (vt c sb)) (hi : X.N[i]? = some x := by rfl) (hx : Loc X.env.scope x := by first | exact Or.inl rfl | exact Or.inr rfl)
    (hs : swapsWith (.Call (.Name "list" p) [e] [] p1) (some (.Name x pos')) pos.line X.env = pure false := by rfl) (hf : X.fn x = true ∨ X.env.scope.names.lookup x = some .local := by first | exact Or.inl rfl | exact Or.inr rfl)
    (hg : Gl X "list" := by rfl) (hst : starEach [e] X.env = (false, eval e X.env) :: starEach [] X.env := by rfl) (hpl : (backTo p1 (starEach [] X.env)).any (·.1) = false := by rfl) :
    PS X (.Assign [.Name x pos'] (.Call (.Name "list" p) [e] [] p1) pos) (vs c (kOwnL i (sListO t fi ml sb))) :=
  ps_of (ps_set hN hi hx (pe_callTy (call_listO C L hK hr hc) hg hm bt_list (pa_cons ha pa_nil hst) (by decide) (by decide) hst hpl) hs hf) fun σ H E ⟨F, ρ, I, fl, ρ', e, q⟩ => by
    unfold kOwnL at e
    split at e
    · rename_i xs ρ1 e1
      cases e
      exact listO_w σ H (fun v H' => E.nx (σ.set i (some v)) H') I e1 fun p zs H' F' x' J' hp rs => q _ _ _ x' (J'.fresh hp rs i)
    · rename_i xs ρ1 e1
      obtain ⟨_, _, _, _, _, ed, _⟩ := sListO_inv e1
      cases ed
    · cases e
end
end VS

set_option Elab.async false
set_option linter.all false
set_option maxRecDepth 100000
set_option maxHeartbeats 4000000
namespace VS
open PySem PySem.Spec PyProof.Rows L2
/-! x.clear(), x.reverse(), repr(x) of a list of one's own -/
def kMut (f : List D → List D) (i : Nat) : SS := fun ρ => match conM ρ i with
  | some xs => some (.nx, setM ρ i (f xs))
  | none => none
def sRepM (i : Nat) : SE := fun ρ => match conM ρ i with
  | some xs => match gRep2 [.lst xs] with
    | some (.str x) => some (.str x, ρ)
    | _ => none
  | none => none
section
variable {c : Ctx} {X : Cx}
theorem mtR_of {id : String} {r : V → List V → Hp → VK → Prop} (h : MtM X id r) : MtR X id r := by
  exact fun pins s σ H x xs v us Q I rx rv q => h pins s σ H x xs v us Q I rx rv q
theorem vs_clear {i : Nat} {x : Str} {p0 apos cpos pos : Pos} (h : PE X (.Name x p0) (tVar i))
    (hbase : attributeBase (.Name x p0) "clear" X.env (eval (.Name x p0) X.env) = eval (.Name x p0) X.env := by rfl) (hline : (apos.endLine == cpos.line) = true := by rfl)
    (hs : swapsWith (.Call (.Attribute (.Name x p0) "clear" apos) [] [] cpos) none pos.line X.env = pure false := by rfl) :
    PS X (.Expr (.Call (.Attribute (.Name x p0) "clear" apos) [] [] cpos) pos) (vs c (kMut (fun _ => []) i)) :=
  ps_of (ps_expr (pe_bm0 PySem.F.plainAttrs_list PySem.F.slot_list_clear PySem.F.type_list_clear (mtR_of mt_clear) h hbase hline) hs) fun σ H E ⟨F, ρ, I, fl, ρ', e, q⟩ => by
    unfold kMut at e
    split at e
    · rename_i xs0 e0
      cases e
      obtain ⟨p, us0, g1, g2, g3, g4⟩ := I.own e0
      refine ⟨_, g1, .inl ⟨rfl, _, .of g2⟩, ?_⟩
      refine ⟨p, us0, rfl, rfl, g2, ?_⟩
      exact q _ _ _ Ext.rfl' (I.changed e0 g1 g2 g3 .nil)
    · cases e
theorem vs_reverse {i : Nat} {x : Str} {p0 apos cpos pos : Pos} (h : PE X (.Name x p0) (tVar i))
    (hbase : attributeBase (.Name x p0) "reverse" X.env (eval (.Name x p0) X.env) = eval (.Name x p0) X.env := by rfl) (hline : (apos.endLine == cpos.line) = true := by rfl)
    (hs : swapsWith (.Call (.Attribute (.Name x p0) "reverse" apos) [] [] cpos) none pos.line X.env = pure false := by rfl) :
    PS X (.Expr (.Call (.Attribute (.Name x p0) "reverse" apos) [] [] cpos) pos) (vs c (kMut List.reverse i)) :=
  ps_of (ps_expr (pe_bm0 PySem.F.plainAttrs_list PySem.F.slot_list_reverse PySem.F.type_list_reverse (mtR_of mt_reverse) h hbase hline) hs) fun σ H E ⟨F, ρ, I, fl, ρ', e, q⟩ => by
    unfold kMut at e
    split at e
    · rename_i xs0 e0
      cases e
      obtain ⟨p, us0, g1, g2, g3, g4⟩ := I.own e0
      refine ⟨_, g1, .inl ⟨rfl, _, .of g2⟩, ?_⟩
      refine ⟨p, us0, rfl, rfl, g2, ?_⟩
      exact q _ _ _ Ext.rfl' (I.changed e0 g1 g2 g3 g4.reverse)
    · cases e
theorem ve_repM {a : Expr} {i : Nat} {p pos : Pos} (hK : X.K = c.G.K) (hgd : X.A.guards = some []) (hu : X.A.units + 100 < cLine) (hm : X.mg "repr" = none) (ha : PE X a (tVar i)) (hg : Gl X "repr" := by rfl)
    (he : starEach [a] X.env = (false, eval a X.env) :: starEach [] X.env := by rfl) (hpl : (backTo pos (starEach [] X.env)).any (·.1) = false := by rfl) : PE X (.Call (.Name "repr" p) [a] [] pos) (vt c (sRepM i)) :=
  pe_of (pe_callB (ca_repr2 (c := c) hK hgd hu) hg hm bt_repr (pa_cons ha pa_nil he) (by decide) (by decide) he hpl) fun σ H Q ⟨F, ρ, I, d, ρ', e, q⟩ => by
    unfold sRepM at e
    split at e
    · rename_i xs e0
      split at e
      · rename_i x e1
        cases e
        obtain ⟨p, vs, h0, h2, h3, h4⟩ := I.own e0
        refine ⟨_, h0, ?_⟩
        have x1 : Ext F (upd F p (.lst vs)) := Ext.upd h3
        refine ⟨upd F p (.lst vs), [.lst xs], .str x, fun b o z => ?_, .cons (.lst upd_same (h4.ext x1)) .nil, e1, fun v H' F' g r => ?_⟩
        · by_cases w : b = p
          · subst w; rw [upd_same] at z; cases z; exact h2
          · rw [upd_ne w] at z; exact I.fh _ _ z
        · cases r
          have g2 : Grow F H F H' := ⟨Ext.rfl', I.fh.trans g.h, g.h, fun _ _ _ n => n⟩
          exact q _ _ _ Ext.rfl' (I.grow g2) (.str x)
      · cases e
    · cases e
end
end VS

set_option Elab.async false
set_option linter.all false
set_option maxRecDepth 100000
set_option maxHeartbeats 4000000
namespace VS
open PySem PySem.Spec PyProof.Rows L2
theorem hu65 {A : Around} {k : Nat} (hr : Room k A) : A.units + 65 < cLine := by have := hr.un; omega
/-! x in ys, x and the items of ys of any depth -/
def inT (a b : D) : Option Bool := match toP a, toP b with
  | some x, some (.list ys) => if SeqAt.shaped x = true ∧ SeqAt.shaped (.list ys) = true then some (ys.any fun z => PyData.eqv z x) else none
  | _, _ => none
def gInT : G2 := fun a b => (inT a b).map .bl
def gNotInT : G2 := fun a b => (inT a b).map fun r => .bl (!r)
section
variable {c : Ctx} {X : Cx}
theorem inT_inv {a b : D} {r : Bool} (h : inT a b = some r) : ∃ x ys, toP a = some x ∧ toP b = some (.list ys) ∧ SeqAt.shaped x = true ∧ SeqAt.shaped (.list ys) = true ∧ r = ys.any fun z => PyData.eqv z x := by
  unfold inT at h
  split at h
  · rename_i x ys h1 h2
    split at h
    · rename_i hs
      cases h
      exact ⟨x, ys, h1, h2, hs.1, hs.2, rfl⟩
    · cases h
  · cases h
theorem od_inT (hu : X.A.units + 65 < cLine) : OpD c X (compareOp .In) gInT := opr_of (L2.op_inD hu) fun x y H Q ⟨F, a, b, d, e, ra, rb, hg, q⟩ => by
  unfold gInT at hg
  cases h : inT a b with
  | none => rw [h] at hg; cases hg
  | some r =>
    rw [h] at hg
    cases hg
    obtain ⟨x', ys, h1, h2, h3, h4, rfl⟩ := inT_inv h
    exact ⟨x', ys, ra.dp e h1, rb.dp e h2, h3, h4, q.here e (.bl _)⟩
theorem od_notinT (hu : X.A.units + 65 < cLine) : OpD c X (compareOp .NotIn) gNotInT := opr_of (L2.op_notInD hu) fun x y H Q ⟨F, a, b, d, e, ra, rb, hg, q⟩ => by
  unfold gNotInT at hg
  cases h : inT a b with
  | none => rw [h] at hg; cases hg
  | some r =>
    rw [h] at hg
    cases hg
    obtain ⟨x', ys, h1, h2, h3, h4, rfl⟩ := inT_inv h
    exact ⟨x', ys, ra.dp e h1, rb.dp e h2, h3, h4, q.here e (.bl _)⟩
end
end VS

set_option Elab.async false
set_option linter.all false
set_option maxRecDepth 100000
set_option maxHeartbeats 4000000
namespace VS
open PySem PySem.Spec PyProof.Rows L2
/-! a, b = {}, [] -/
def kParDL (i j : Nat) (b : Bool) : SS := fun ρ => some (.nx, (ρ.set i (.dic b [] [])).set j (.own []))
section
variable {c : Ctx} {X : Cx}
theorem vs_parDL {i j : Nat} {x y : Str} {px py pt p1 p2 pos : Pos} {kt k2 pt2} (b : Bool) (hw : X.w = c.G.w) (hc : X.calm = true) (hN : X.N.Nodup)
    (hsw : swappedStores [.Tuple [.Name x px, .Name y py] kt pt] (.Tuple [.Dict [] [] p1, .List [] p2] k2 pt2) X.env = pure (some [x, y]))
    (hi : X.N[i]? = some x := by rfl) (hj : X.N[j]? = some y := by rfl) (hij : i ≠ j := by decide)
    (hx : X.env.scope.names.lookup x = some .local := by rfl) (hy : X.env.scope.names.lookup y = some .local := by rfl)
    (h1 : starEach [.Dict [] [] p1, .List [] p2] X.env = (false, eval (.Dict [] [] p1) X.env) :: starEach [.List [] p2] X.env := by rfl) (h2 : starEach [.List [] p2] X.env = (false, eval (.List [] p2) X.env) :: starEach [] X.env := by rfl)
    (hs : swapsWithSole [.Tuple [.Name x px, .Name y py] kt pt] (.Tuple [.Dict [] [] p1, .List [] p2] k2 pt2) pos.line X.env = pure false := by rfl) :
    PS X (.Assign [.Tuple [.Name x px, .Name y py] kt pt] (.Tuple [.Dict [] [] p1, .List [] p2] k2 pt2) pos) (vs c (kParDL i j b)) := by
  cases b with
  | true =>
    refine ps_of (ps_par hc hN hi hj hij hx hy (pa_cons pe_dnewR (pa_cons (pe_lst pa_nil) pa_nil h2) h1) hsw hs) fun σ H E ⟨F, ρ, I, fl, ρ', e, q⟩ => ?_
    cases e
    intro p hp hsys
    have J := I.freshS (o := rawO X.w p []) (s0 := .dic true [] []) hp i fun h0 hF => ⟨p, rfl, h0, hF, [], ⟨[], by rw [← hw]; exact upd_same, hsys, rfl, List.nodup_nil, .nil, fun x hx => absurd hx (by simp), Nat.zero_le _⟩, .nil⟩
    exact ⟨Nat.zero_le _, fun p2 hp2 => ⟨_, _, rfl, q _ _ F Ext.rfl' (J.fresh hp2 .nil j)⟩⟩
  | false =>
    refine ps_of (ps_par hc hN hi hj hij hx hy (pa_cons pe_dnewK (pa_cons (pe_lst pa_nil) pa_nil h2) h1) hsw hs) fun σ H E ⟨F, ρ, I, fl, ρ', e, q⟩ => ?_
    cases e
    intro p hp
    have J := I.freshS (o := .dK []) (s0 := .dic false [] []) hp i fun h0 hF => ⟨p, rfl, h0, hF, [], ⟨[], upd_same, rfl, rfl, Nat.zero_le _⟩, .nil⟩
    exact ⟨Nat.zero_le _, fun p2 hp2 => ⟨_, _, rfl, q _ _ F Ext.rfl' (J.fresh hp2 .nil j)⟩⟩
end
end VS

set_option Elab.async false
set_option linter.all false
set_option maxRecDepth 100000
set_option maxHeartbeats 4000000
namespace VS
open PySem PySem.Spec PyProof.Rows L2
/-! a, b, .. = a list -/
def kUnl (is : List Nat) (e : SE) : SS := fun ρ => match e ρ with
  | some (.lst ds, ρ1) => match sets is ds ρ1 with
    | some ρ2 => some (.nx, ρ2)
    | none => none
  | _ => none
section
variable {c : Ctx} {X : Cx}
theorem unl_w {K : PySem.W.Frag} {F H : Hp} {is : List Nat} {ds : List D} {ρ ρ' : Rho} {v : V} {σ : L2.St} {Q : L2.St → Hp → Prop} (I : Ok c F H σ ρ) (r : Rep c.G F v (.lst ds)) (h : sets is ds ρ = some ρ')
    (q : ∀ σ', Ok c F H σ' ρ' → (∀ vs : List Nat, (∀ i ∈ is, i ∈ vs) → wipe σ' vs = wipe σ vs) → Q σ' H) : gUnl K is.length (gsN is) v σ H Q := by
  cases r with
  | lst h1 rs => exact ⟨_, _, rfl, .of (I.fh _ _ h1), by rw [rs.length]; exact sets_len h, sets_w I rs h q⟩
theorem vs_unl {es : List Expr} {k : Nat} {e : Expr} {s : SE} {tpos pos : Pos} (is : List Nat) (he : PE X e (vt c s)) (hg : PG X (.Tuple es k tpos) (gUnl X.K is.length (gsN is)))
    (hs : swapsWithSole [.Tuple es k tpos] e pos.line X.env = pure false := by rfl) (hw : swappedStores [.Tuple es k tpos] e X.env = pure none := by rfl) (h1 : (assignEach [.Tuple es k tpos] X.env).map (·.2) = [assign (.Tuple es k tpos) X.env] := by rfl) :
    PS X (.Assign [.Tuple es k tpos] e pos) (vs c (kUnl is s)) :=
  ps_of (ps_asg he hg hs hw h1) fun σ H E ⟨F, ρ, I, fl, ρ', e, q⟩ => by
    unfold kUnl at e
    split at e
    · rename_i ds ρ1 e1
      split at e
      · rename_i ρ2 e2
        cases e
        exact ⟨F, ρ, I, _, ρ1, e1, fun v H1 F1 x1 I1 r1 => unl_w I1 r1 e2 fun σ' I' _ => q _ _ _ x1 I'⟩
      · cases e
    · cases e
end
theorem kUnl_of {is : List Nat} {e : SE} {ρ ρ1 ρ2 : Rho} {ds : List D} (h : e ρ = some (.lst ds, ρ1)) (h2 : sets is ds ρ1 = some ρ2) : kUnl is e ρ = some (.nx, ρ2) := by
  unfold kUnl
  rw [h]
  simp only [h2]
end VS

set_option Elab.async false
set_option linter.all false
set_option maxRecDepth 100000
set_option maxHeartbeats 4000000
namespace VS
open PySem PySem.Spec PyProof.Rows L2
/-! a, b = [], [n]: two own lists, by way of a tuple -/
def kParEI (i j : Nat) (n : Int) : SS := fun ρ => some (.nx, (ρ.set i (.own [])).set j (.own [.int n]))
section
variable {c : Ctx} {X : Cx}
theorem vs_parEI {i j : Nat} {es : List Expr} {n : Int} {p1 p2 p3 pos tpos : Pos} {kt k2 k3 pt2} (hg : PG X (.Tuple es kt tpos) (gT X.K (.tp [i, j])))
    (h1 : starEach [.List [] p1, .List [.Constant (.int n) k3 p3] p2] X.env = (false, eval (.List [] p1) X.env) :: starEach [.List [.Constant (.int n) k3 p3] p2] X.env := by rfl) (h2 : starEach [.List [.Constant (.int n) k3 p3] p2] X.env = (false, eval (.List [.Constant (.int n) k3 p3] p2) X.env) :: starEach [] X.env := by rfl)
    (hs : swapsWithSole [.Tuple es kt tpos] (.Tuple [.List [] p1, .List [.Constant (.int n) k3 p3] p2] k2 pt2) pos.line X.env = pure false := by rfl)
    (hw : swappedStores [.Tuple es kt tpos] (.Tuple [.List [] p1, .List [.Constant (.int n) k3 p3] p2] k2 pt2) X.env = pure none := by rfl) (h3 : (assignEach [.Tuple es kt tpos] X.env).map (·.2) = [assign (.Tuple es kt tpos) X.env] := by rfl) :
    PS X (.Assign [.Tuple es kt tpos] (.Tuple [.List [] p1, .List [.Constant (.int n) k3 p3] p2] k2 pt2) pos) (vs c (kParEI i j n)) := by
  refine ps_of (ps_asg (pe_tup (pa_cons (pe_lst pa_nil) (pa_cons (pe_lst (pa_cons pe_int pa_nil)) pa_nil h2) h1)) hg hs hw h3) fun σ H E ⟨F, ρ, I, fl, ρ', e, q⟩ => ?_
  cases e
  refine ⟨Nat.zero_le _, fun p hp => ⟨by show 1 ≤ sizeLine; decide, fun p2 hp2 => ⟨by show 2 ≤ sizeLine; decide, fun p3 hp3 => ?_⟩⟩⟩
  have J := (I.fresh hp .nil i).fresh hp2 (.cons (.int n) .nil) j
  have J3 := J.grow (Grow.raw (o := .tup [.ref p, .ref p2]) J.fh hp3)
  exact ⟨p3, [.ref p, .ref p2], rfl, .of upd_same, rfl, _, _, rfl, _, _, rfl, rfl, q _ _ F Ext.rfl' J3⟩
/-! x, y, z = [], e, f -/
def vaX (G : Gx) (s : SA) : TA := fun σ H Q => ∃ F0 H0 B, va ⟨G, F0, H0, B⟩ s σ H Q
theorem pa_X {X : Cx} {G : Gx} {es : List Expr} {s : SA} (h : ∀ F0 H0 B, PA X es (va ⟨G, F0, H0, B⟩ s)) : PA X es (vaX G s) :=
  ⟨fun pos pins sh σ H Q I ⟨F0, H0, B, q⟩ => (h F0 H0 B).run pos pins sh σ H Q I q⟩
def kPar3L (i j l : Nat) (a : SA) : SS := fun ρ => match a (blkR [] ρ) with
  | some ([d, d'], ρ2) => match restore ρ ρ2 with
    | some r => some (.nx, ((r.set j (.val d)).set l (.val d')).set i (.own []))
    | none => none
  | _ => none
theorem vs_par3L {i j l : Nat} {x y z : Str} {a b : Expr} {sa : SA} {px py pz pt p1 pos : Pos} {kt k2 pt2} (hc : X.calm = true) (hN : X.N.Nodup) (ha : ∀ F0 H0 B, PA X [a, b] (va ⟨c.G, F0, H0, B⟩ sa))
    (hw : swappedStores [.Tuple [.Name x px, .Name y py, .Name z pz] kt pt] (.Tuple [.List [] p1, a, b] k2 pt2) X.env = pure (some [x, y, z]))
    (hi : X.N[i]? = some x := by rfl) (hj : X.N[j]? = some y := by rfl) (hl : X.N[l]? = some z := by rfl) (hij : i ≠ j := by decide) (hil : i ≠ l := by decide) (hjl : j ≠ l := by decide)
    (hx : X.env.scope.names.lookup x = some .local := by rfl) (hy : X.env.scope.names.lookup y = some .local := by rfl) (hz : X.env.scope.names.lookup z = some .local := by rfl)
    (h1 : starEach [.List [] p1, a, b] X.env = (false, eval (.List [] p1) X.env) :: starEach [a, b] X.env := by rfl)
    (hs : swapsWithSole [.Tuple [.Name x px, .Name y py, .Name z pz] kt pt] (.Tuple [.List [] p1, a, b] k2 pt2) pos.line X.env = pure false := by rfl) :
    PS X (.Assign [.Tuple [.Name x px, .Name y py, .Name z pz] kt pt] (.Tuple [.List [] p1, a, b] k2 pt2) pos) (vs c (kPar3L i j l sa)) :=
  ps_of (ps_par3 hc hN hi hj hl hij hil hjl hx hy hz (pa_cons (pe_lst pa_nil) (pa_X ha) h1) hw hs) fun σ H E ⟨F, ρ, I, fl, ρ', e, q⟩ => by
    unfold kPar3L at e
    split at e
    · rename_i d d' ρ2 e2
      split at e
      · rename_i r e3
        cases e
        refine ⟨Nat.zero_le _, fun p hp => ?_⟩
        have h0 := I.no_H0 hp
        have hF := ext_none I.fh hp
        have I2 := I.grow (Grow.raw (o := .lst []) I.fh hp)
        have J := I2.enter []
        have np : p ∉ mutA σ ρ := fun hm => by
          obtain ⟨j, zs, k1, k2⟩ := mem_mutA.mp hm
          rcases k1 with k1 | k1
          · exact I.no_slot hp j _ p k1 rfl k2 rfl
          · exact I.no_slot hp j _ p k1 rfl k2 rfl
        refine ⟨F, _, mutA σ ρ, F, blkR [] ρ, J, _, ρ2, e2, fun vs H3 F3 x3 J3 r3 => ?_⟩
        obtain ⟨v, v', rfl, ra, rb⟩ := reps2 r3
        refine ⟨.ref p, v, v', rfl, ?_⟩
        have I3 := I2.leave J3 (rfl : wipe σ [] = wipe σ []) e3 (fun _ _ _ _ _ => by simp)
        have hp3 : H3 p = some (.lst []) := J3.fr p _ upd_same np nt_lst
        have hF3 : F3 p = none := J3.n0 p _ upd_same hF
        have sep : ∀ (j : Nat) (s : Sl) (q : Addr), r[j]? = some s → s.mut = true → σ[j]? = some (some (V.ref q)) → q ≠ p := fun j s q hs hm hq z => by
          obtain ⟨s0, z1, z2⟩ := restore_get e3 hs
          have m0 : s0.mut = true := by
            rcases z2 with ⟨z2, _⟩ | ⟨_, _, _, ⟨z3, _⟩ | ⟨z3, _⟩⟩
            · subst z2; exact hm
            · subst z3; rfl
            · subst z3; rfl
          exact I.no_slot hp j s0 q z1 m0 hq z
        have T := ((I3.take hF3 hp3 h0 sep .nil i).put j ra).put l rb
        have e6 : ((r.set i (.own [])).set j (.val d)).set l (.val d') = ((r.set j (.val d)).set l (.val d')).set i (.own []) := by
          rw [List.set_comm _ _ hij, List.set_comm _ _ hil]
        rw [e6] at T
        exact q _ _ _ x3 T
      · cases e
    · cases e
end
end VS
namespace VS
open PySem PySem.Spec PyProof.Rows L2
theorem kPar3L_of {i j l : Nat} {a : SA} {ρ ρ2 r ρ3 : Rho} {d d' : D} (h2 : a (blkR [] ρ) = some ([d, d'], ρ2)) (h3 : restore ρ ρ2 = some r) (h4 : ((r.set j (.val d)).set l (.val d')).set i (.own []) = ρ3) : kPar3L i j l a ρ = some (.nx, ρ3) := by
  unfold kPar3L
  rw [h2]
  simp only [h3, h4]
end VS
namespace VS
open PySem PySem.Spec PyProof.Rows L2
/-! what is one's own becomes data, behind a statement -/
def kSeal (i : Nat) (s : SS) : SS := fun ρ => match s ρ with
  | some (.nx, ρ1) => match ρ1[i]? with
    | some (.own xs) => some (.nx, ρ1.set i (.val (.lst xs)))
    | _ => none
  | _ => none
section
variable {c : Ctx} {X : Cx}
theorem vs_seal {st : Stmt} {s : SS} (i : Nat) (h : PS X st (vs c s)) : PS X st (vs c (kSeal i s)) :=
  ps_of h fun σ H E ⟨F, ρ, I, fl, ρ', e, q⟩ => by
    unfold kSeal at e
    split at e
    · rename_i ρ1 e1
      split at e
      · rename_i xs hx
        cases e
        refine ⟨F, ρ, I, .nx, ρ1, e1, fun σ' H' F' x I' => ?_⟩
        obtain ⟨p, us, h1, h2, h3, h4, h5⟩ := I'.freeze hx
        exact q _ _ _ (x.trans (Ext.upd h3)) h5
      · cases e
    · cases e
end
theorem kSeal_of {i : Nat} {s : SS} {ρ ρ1 ρ2 : Rho} {xs : List D} (h : s ρ = some (.nx, ρ1)) (hx : ρ1[i]? = some (.own xs)) (h2 : ρ1.set i (.val (.lst xs)) = ρ2) : kSeal i s ρ = some (.nx, ρ2) := by
  unfold kSeal
  rw [h]
  simp only [hx, h2]
end VS

set_option Elab.async false
set_option linter.all false
set_option maxRecDepth 100000
set_option maxHeartbeats 4000000
namespace VS
open PySem PySem.Spec PyProof.Rows L2
/-! found == [], found a list of one's own that stays so -/
def sEqN (i : Nat) : SE := fun ρ => match conM ρ i with
  | some xs => some (.bl xs.isEmpty, ρ)
  | none => none
section
variable {X : Cx} {c : Ctx}
theorem eqN_w {i : Nat} (σ : L2.St) (H : Hp) (Q : VK) (h : vt c (sEqN i) σ H Q) : tOp (fun x y H Q => (∃ a b xs ys, x = V.ref a ∧ y = V.ref b ∧ SqL X.K H a xs ∧ SqL X.K H b ys ∧ xs.length ≠ ys.length ∧ Q (V.bl false) H) ∨ rEqD X.K x y H Q) (tVar i) (tLst tNil) σ H Q := by
  obtain ⟨F, ρ, I, d, ρ', e, q⟩ := h
  unfold sEqN at e
  split at e
  · rename_i xs e0
    cases e
    obtain ⟨q1, vs, h0, h2, h3, h4⟩ := I.own e0
    refine ⟨_, h0, Nat.zero_le _, fun p2 hp2 => ?_⟩
    have I2 := I.grow (Grow.raw (o := .lst []) I.fh hp2)
    have ne : q1 ≠ p2 := fun z => by rw [z, hp2] at h2; cases h2
    have h2' : upd H p2 (.lst []) q1 = some (.lst vs) := by rw [upd_ne ne]; exact h2
    have qq := fun b : Bool => q (.bl b) _ F Ext.rfl' I2
    cases h4 with
    | nil => exact .inr ⟨.list [], .list [], (Rep.lst (G := c.G) h2' .nil).dp (x := .list []) Ext.rfl' rfl, (Rep.lst (G := c.G) upd_same .nil).dp (x := .list []) Ext.rfl' rfl, by decide, by decide, qq _ (.bl _)⟩
    | cons r r' => exact .inl ⟨_, _, _, _, rfl, rfl, .of h2', .of upd_same, by simp, qq _ (.bl _)⟩
  · cases e
theorem ve_eqN {a : Expr} {i : Nat} {p pos : Pos} (hu : X.A.units + 64 < cLine) (ha : PE X a (tVar i)) (hm : behindInMarks .Eq (.List [] p) = false := by first | exact nomark _ | rfl) : PE X (.Compare a [.Eq] [.List [] p] pos) (vt c (sEqN i)) :=
  pe_of (pe_cmpR ((op_eqLen hu).or (op_eqD hu)) ha (pe_lst pa_nil) hm) fun σ H Q h => eqN_w σ H Q h
theorem vt_eqN {a : Expr} {i : Nat} {p pos : Pos} (hu : X.A.units + 64 < cLine) (ha : PE X a (tVar i)) (hm : behindInMarks .Eq (.List [] p) = false := by first | exact nomark _ | rfl) : PT X (.Compare a [.Eq] [.List [] p] pos) (vb c (sB (sEqN i))) :=
  pt_of (pt_cmpR ((op_eqLen hu).or (op_eqD hu)) ha (pe_lst pa_nil) hm) fun _ _ _ h => vb_test (fun _ => eqN_w _ _ _) h
end
theorem sEqN_of {i : Nat} {ρ : Rho} {xs : List D} (h : conM ρ i = some xs) : sEqN i ρ = some (.bl xs.isEmpty, ρ) := by
  unfold sEqN
  rw [h]
end VS

set_option Elab.async false
set_option linter.all false
set_option maxRecDepth 100000
set_option maxHeartbeats 4000000
namespace VS
open PySem PySem.Spec PyProof.Rows L2
/-! a dict of growing lists, filled in a for and handed back as list(d.values()) -/
def NoMut (ρ : Rho) : Prop := ∀ (i : Nat) s, ρ[i]? = some s → s.mut = false
theorem NoMut.mutA {σ : L2.St} {ρ : Rho} (n : NoMut ρ) (p : Addr) : p ∉ mutA σ ρ := fun h => by
  obtain ⟨i, xs, h1, h2⟩ := mem_mutA.mp h
  rcases h1 with h1 | h1 <;> (have := n _ _ h1; cases this)
theorem NoMut.setS {ρ : Rho} (n : NoMut ρ) (i : Nat) {s0 : Sl} (h0 : s0.mut = false) : NoMut (ρ.set i s0) := fun j s h => by
  by_cases z : i = j
  · subst z
    have hl : i < ρ.length := by have := (List.getElem?_eq_some_iff.mp h).1; rwa [List.length_set] at this
    rw [List.getElem?_set_self hl] at h; cases h; exact h0
  · rw [List.getElem?_set_ne z] at h; exact n j s h
theorem NoMut.sets : ∀ {is : List Nat} {ds : List D} {ρ ρ' : Rho}, NoMut ρ → VS.sets is ds ρ = some ρ' → NoMut ρ'
  | [], [], _, _, n, h => by unfold VS.sets at h; cases h; exact n
  | i :: is, d :: ds, ρ, ρ', n, h => by unfold VS.sets at h; exact NoMut.sets (n.setS i (s0 := .val d) rfl) h
  | [], _ :: _, _, _, _, h => by unfold VS.sets at h; cases h
  | _ :: _, [], _, _, _, h => by unfold VS.sets at h; cases h
theorem NoMut.tgt {t : Tg} {d : D} {ρ ρ' : Rho} (n : NoMut ρ) (h : VS.tgt t d ρ = some ρ') : NoMut ρ' := by
  cases t with
  | nm i => unfold VS.tgt at h; cases h; exact n.setS i rfl
  | tp is =>
    cases d with
    | tup ds => exact NoMut.sets n h
    | _ => simp [VS.tgt] at h
  | np i is =>
    unfold VS.tgt at h
    split at h
    · rename_i e; cases e
    · rename_i e; cases e
    · rename_i e; cases e; exact NoMut.sets (n.setS i (s0 := .val _) rfl) h
    · cases h
theorem NoMut.restore {ρ ρ2 r : Rho} (n : NoMut ρ) (h : VS.restore ρ ρ2 = some r) : NoMut r := fun i s hs => by
  obtain ⟨s0, h1, h2⟩ := restore_get h hs
  rcases h2 with ⟨rfl, _⟩ | ⟨xs, ys, _, ⟨e, _⟩ | ⟨e, _⟩⟩
  · exact n _ _ h1
  · subst e; have := n _ _ h1; cases this
  · subst e; have := n _ _ h1; cases this
def noM (ρ : Rho) : Bool := ρ.all fun s => !s.mut
theorem noM_of {ρ : Rho} (h : noM ρ = true) : NoMut ρ := fun i s hs => by
  have := List.all_eq_true.mp h s (List.mem_of_getElem? hs)
  simpa using this
section
variable {c : Ctx} {X : Cx}
/-- what is no slot's and no data may change: a frame without slots that may -/
theorem Ok.othX {F H : Hp} {σ : L2.St} {ρ : Rho} {p : Addr} {o : HO} (I : Ok c F H σ ρ) (nm : NoMut ρ) (hp : H p = some o) (nt : ∀ ps, o ≠ .tbl ps) (nc : ∀ c q, o ≠ LamX.CodeO c q) (nl : ¬ LamL o) (hF : F p = none) (h0 : c.H0 p = none) (o' : HO) : Ok c F (upd H p o') σ ρ := by
  have nF : ∀ q u, F q = some u → q ≠ p := fun q u e z => by subst z; rw [hF] at e; cases e
  have n0 : ∀ q u, c.H0 q = some u → q ≠ p := fun q u e z => by subst z; rw [h0] at e; cases e
  refine ⟨I.len, I.f0, fun q u e => by rw [upd_ne (nF q u e)]; exact I.fh q u e, fun q u e1 e2 e3 => by rw [upd_ne (n0 q u e1)]; exact I.fr q u e1 e2 e3, fun q u e => by rw [upd_ne (n0 q u e)]; exact I.al q u e, I.n0, fun i s hs => ?_, I.ap, I.hb, ⟨tabs_upd I.tb.t hp nt nc, I.tb.n⟩⟩
  obtain ⟨ov, h1, h2⟩ := I.sl i s hs
  have hm := nm i s hs
  refine ⟨ov, h1, ?_⟩
  cases s with
  | no => cases ov <;> trivial
  | val d => cases ov <;> exact h2
  | lam g0 =>
    cases ov with
    | none => exact h2
    | some v => exact let ⟨f1, z1, z2⟩ := h2; ⟨f1, z1, z2.move Ext.rfl' fun q0 u0 e1 e2 => ⟨by rw [upd_ne (fun z => by subst z; rw [hp] at e1; cases e1; exact nl e2)]; exact e1, id⟩⟩
  | own xs => cases hm
  | bor xs => cases hm
  | slf k fs => cases hm
  | dic b k fs => cases hm
theorem Ok.forget {F H : Hp} {σ : L2.St} {ρ : Rho} (I : Ok c F H σ ρ) (i : Nat) : Ok c F H σ (ρ.set i .no) := by
  refine ⟨by rw [List.length_set]; exact I.len, I.f0, I.fh, I.fr, I.al, I.n0, fun j s hs => ?_, fun a b s t p q ha hb ms mt hp hq e => ?_, I.hb, I.tb⟩
  · by_cases z : i = j
    · subst z
      have hl : i < ρ.length := by have := (List.getElem?_eq_some_iff.mp hs).1; rwa [List.length_set] at this
      rw [List.getElem?_set_self hl] at hs; cases hs
      have hl' : i < σ.length := by rw [I.len]; exact hl
      exact ⟨_, List.getElem?_eq_getElem hl', by cases σ[i] <;> trivial⟩
    · rw [List.getElem?_set_ne z] at hs; exact I.sl j s hs
  · have back : ∀ {j : Nat} {s : Sl}, (ρ.set i .no)[j]? = some s → s.mut = true → ρ[j]? = some s := fun {j s} h m => by
      by_cases z : i = j
      · subst z
        have hl : i < ρ.length := by have := (List.getElem?_eq_some_iff.mp h).1; rwa [List.length_set] at this
        rw [List.getElem?_set_self hl] at h; cases h; cases m
      · rw [List.getElem?_set_ne z] at h; exact h
    exact I.ap a b s t p q (back ha ms) (back hb mt) ms mt hp hq e
/-! the lists behind the keys -/
def QO (c : Ctx) (F H : Hp) (q : Addr) (xs : List D) : Prop := c.H0 q = none ∧ F q = none ∧ ∃ us, H q = some (.lst us) ∧ Reps c.G F us xs
inductive QL (R : Addr → List D → Prop) : List Addr → List (List D) → Prop
  | nil : QL R [] []
  | cons {q : Addr} {x : List D} {qs : List Addr} {xss : List (List D)} : R q x → QL R qs xss → QL R (q :: qs) (x :: xss)
theorem QL.mono {R R' : Addr → List D → Prop} : ∀ {qs : List Addr} {xss : List (List D)}, QL R qs xss → (∀ q x, q ∈ qs → R q x → R' q x) → QL R' qs xss
  | _, _, .nil, _ => .nil
  | _, _, .cons h r, w => .cons (w _ _ List.mem_cons_self h) (QL.mono r fun q x hq => w q x (List.mem_cons_of_mem _ hq))
theorem QL.len {R : Addr → List D → Prop} : ∀ {qs : List Addr} {xss : List (List D)}, QL R qs xss → qs.length = xss.length
  | _, _, .nil => rfl
  | _, _, .cons _ r => by simp [QL.len r]
theorem QL.snoc {R : Addr → List D → Prop} {q : Addr} {x : List D} (h : R q x) : ∀ {qs : List Addr} {xss : List (List D)}, QL R qs xss → QL R (qs ++ [q]) (xss ++ [x])
  | _, _, .nil => .cons h .nil
  | _, _, .cons a r => .cons a (QL.snoc h r)
theorem QL.mem {R : Addr → List D → Prop} : ∀ {qs : List Addr} {xss : List (List D)} {q : Addr}, QL R qs xss → q ∈ qs → ∃ x ∈ xss, R q x
  | _, _, _, .nil, h => by cases h
  | _, _, _, .cons a r, h => by
    rcases List.mem_cons.mp h with rfl | h
    · exact ⟨_, List.mem_cons_self, a⟩
    · obtain ⟨x, h1, h2⟩ := QL.mem r h; exact ⟨x, List.mem_cons_of_mem _ h1, h2⟩
def mpA : List NestedKey → List (List D) → NestedKey → D → List (List D)
  | a :: ks, x :: xss, k, d => (if a = k then x ++ [d] else x) :: mpA ks xss k d
  | _, _, _, _ => []
def gPut (ks : List NestedKey) (xss : List (List D)) (k : NestedKey) (d : D) : List (List D) := mpA (pkN ks k) (if k ∈ ks then xss else xss ++ [[]]) k d
theorem mpA_not {k : NestedKey} {d : D} : ∀ {ks : List NestedKey} {xss : List (List D)}, ks.length = xss.length → k ∉ ks → mpA ks xss k d = xss
  | [], [], _, _ => rfl
  | a :: ks, x :: xss, h, n => by
    unfold mpA
    rw [if_neg fun z => n (by rw [z]; exact List.mem_cons_self), mpA_not (by simpa using h) fun z => n (List.mem_cons_of_mem _ z)]
  | [], _ :: _, h, _ => by simp at h
  | _ :: _, [], h, _ => by simp at h
theorem lkN_adr {k : NestedKey} {d : D} : ∀ {ks : List NestedKey} {qs : List Addr}, lkN ks (qs.map D.adr) k = some d → ∃ q ∈ qs, d = .adr q
  | [], qs, h => by cases qs <;> simp [lkN] at h
  | a :: ks, [], h => by simp [lkN] at h
  | a :: ks, q :: qs, h => by
    rw [List.map_cons] at h
    unfold lkN at h
    by_cases z : a = k
    · rw [if_pos z] at h; cases h; exact ⟨q, List.mem_cons_self, rfl⟩
    · rw [if_neg z] at h
      obtain ⟨q', h1, h2⟩ := lkN_adr h
      exact ⟨q', List.mem_cons_of_mem _ h1, h2⟩
theorem lkN_some {k : NestedKey} : ∀ {ks : List NestedKey} {ds : List D}, ks.length = ds.length → ((lkN ks ds k).isSome = true ↔ k ∈ ks)
  | [], [], _ => by simp [lkN]
  | a :: ks, d :: ds, h => by
    unfold lkN
    by_cases z : a = k
    · rw [if_pos z]; simp [z]
    · rw [if_neg z, lkN_some (by simpa using h)]; simp [Ne.symm z]
  | [], _ :: _, h => by simp at h
  | _ :: _, [], h => by simp at h
theorem QL.app {R R' : Addr → List D → Prop} {k : NestedKey} {d : D} {q : Addr} : ∀ {ks : List NestedKey} {qs : List Addr} {xss : List (List D)}, QL R qs xss → ks.length = qs.length → ks.Nodup → qs.Nodup → lkN ks (qs.map D.adr) k = some (.adr q) →
    (∀ x, R q x → R' q (x ++ [d])) → (∀ q' x, q' ∈ qs → q' ≠ q → R q' x → R' q' x) → QL R' qs (mpA ks xss k d)
  | [], _, _, .nil, _, _, _, h, _, _ => by simp [lkN] at h
  | _ :: _, _, _, .nil, h, _, _, _, _, _ => by simp at h
  | [], _, _, .cons _ _, h, _, _, _, _, _ => by simp at h
  | a :: ks, b :: qs, x :: xss, .cons h r, hl, nk, nq, e, w1, w2 => by
    rw [List.map_cons] at e
    unfold lkN at e
    unfold mpA
    have nk' := List.nodup_cons.mp nk
    have nq' := List.nodup_cons.mp nq
    by_cases z : a = k
    · rw [if_pos z] at e ⊢
      cases e
      rw [mpA_not (by rw [← r.len]; simpa using hl) (by rw [← z]; exact nk'.1)]
      exact .cons (w1 _ h) (r.mono fun q' x' hq hx => w2 q' x' (List.mem_cons_of_mem _ hq) (fun y => nq'.1 (by rw [← y]; exact hq)) hx)
    · rw [if_neg z] at e ⊢
      obtain ⟨q', m1, m2⟩ := lkN_adr e
      cases m2
      exact .cons (w2 _ _ List.mem_cons_self (fun y => nq'.1 (by rw [y]; exact m1)) h) (QL.app r (by simpa using hl) nk'.2 nq'.2 e w1 fun q' x' hq hn hx => w2 q' x' (List.mem_cons_of_mem _ hq) hn hx)
theorem QL.app_len {k : NestedKey} {d : D} {n : Nat} : ∀ {ks : List NestedKey} {xss : List (List D)}, (∀ x ∈ xss, x.length ≤ n) → ∀ x ∈ mpA ks xss k d, x.length ≤ n + 1
  | [], xss, h, x, hx => by cases xss <;> simp [mpA] at hx
  | _ :: _, [], h, x, hx => by simp [mpA] at hx
  | a :: ks, y :: xss, h, x, hx => by
    unfold mpA at hx
    rcases List.mem_cons.mp hx with rfl | hx
    · have := h y List.mem_cons_self
      split
      · rw [List.length_append]; simp; omega
      · omega
    · exact QL.app_len (fun z hz => h z (List.mem_cons_of_mem _ hz)) x hx
/-- the dict at the slot iF, the lists behind its keys -/
structure Gh (c : Ctx) (F H : Hp) (σ : L2.St) (iF : Nat) (ks : List NestedKey) (xss : List (List D)) (p : Addr) (qs : List Addr) (vs : List V) : Prop where
  sl : σ[iF]? = some (some (V.ref p))
  p0 : c.H0 p = none
  pF : F p = none
  da : DicAt c.G.w true none F H p ks vs
  rs : Reps c.G F vs (qs.map D.adr)
  nq : qs.Nodup
  ql : QL (QO c F H) qs xss
theorem Gh.ne {F H : Hp} {σ : L2.St} {iF : Nat} {ks : List NestedKey} {xss : List (List D)} {p : Addr} {qs : List Addr} {vs : List V} (g : Gh c F H σ iF ks xss p qs vs) : p ∉ qs := fun h => by
  obtain ⟨x, _, _, _, us, h1, _⟩ := g.ql.mem h
  obtain ⟨xs, d⟩ := g.da
  have := d.at_
  rw [h1] at this
  unfold lkO rawO at this
  cases this
theorem Gh.klen {F H : Hp} {σ : L2.St} {iF : Nat} {ks : List NestedKey} {xss : List (List D)} {p : Addr} {qs : List Addr} {vs : List V} (g : Gh c F H σ iF ks xss p qs vs) : ks.length = qs.length := by
  obtain ⟨xs, d⟩ := g.da
  have h1 := d.vse.length
  have h2 := g.rs.length
  rw [List.length_map] at h1 h2
  rw [d.kse, List.length_map, ← h1, h2]
theorem Gh.knd {F H : Hp} {σ : L2.St} {iF : Nat} {ks : List NestedKey} {xss : List (List D)} {p : Addr} {qs : List Addr} {vs : List V} (g : Gh c F H σ iF ks xss p qs vs) : ks.Nodup := by
  obtain ⟨xs, d⟩ := g.da
  exact d.nd
theorem Gh.move {F H F' H' : Hp} {σ σ' : L2.St} {iF : Nat} {ks : List NestedKey} {xss : List (List D)} {p : Addr} {qs : List Addr} {vs : List V} (g : Gh c F H σ iF ks xss p qs vs) (hs : σ'[iF]? = σ[iF]?) (e : Ext F F')
    (h : ∀ a o, H a = some o → (∀ ps, o ≠ .tbl ps) → H' a = some o) (n : ∀ a o, H a = some o → F a = none → F' a = none) : Gh c F' H' σ' iF ks xss p qs vs := by
  obtain ⟨o, ho, nt⟩ := g.da.obT
  exact ⟨by rw [hs]; exact g.sl, g.p0, n p o ho g.pF, g.da.ext e fun o' k => h p o' k (by rw [ho] at k; cases k; exact nt), g.rs.ext e, g.nq, g.ql.mono fun q x _ ⟨a1, a2, us, a3, a4⟩ => ⟨a1, n q _ a3 a2, us, h q _ a3 (fun _ z => by cases z), a4.ext e⟩⟩
/-! list(d.values()) of a dict one's own, its values as they are -/
def tLV (G : Gx) (i : Nat) : TE := fun σ H Q => ∃ F p ks vs, σ[i]? = some (some (V.ref p)) ∧ Ext F H ∧ DicAt G.w true none F H p ks vs ∧ ∀ q, H q = none → Q (.ref q) (upd H q (.lst vs))
theorem pe_lvals {G : Gx} {i : Nat} {e : Expr} {p apos cpos pos : Pos} (hc : X.calm = true) (hw : X.w = G.w) (hm : X.mg "list" = none) (h : PE X e (tVar i)) (hg : Gl X "list" := by rfl)
    (hbase : attributeBase e "values" X.env (eval e X.env) = eval e X.env := by rfl) (hline : (apos.endLine == cpos.line) = true := by rfl)
    (hst : starEach [.Call (.Attribute e "values" apos) [] [] cpos] X.env = (false, eval (.Call (.Attribute e "values" apos) [] [] cpos) X.env) :: starEach [] X.env := by rfl) (hpl : (backTo pos (starEach [] X.env)).any (·.1) = false := by rfl) :
    PE X (.Call (.Name "list" p) [.Call (.Attribute e "values" apos) [] [] cpos] [] pos) (tLV G i) := by
  refine ⟨fun pins s σ H Q I ⟨F, pd, ks, vs, h1, ex, ⟨xs, d⟩, q⟩ => ?_⟩
  refine wpAny_Call_Name_kw (ld_blt I hg hm bt_list ?_ (by decide) (by decide))
  refine PyProof.Rows.callWith_type1 ?_ hst hpl
  rw [hst]
  show wpAny _ _ (spliced ((false, eval (.Call (.Attribute e "values" apos) [] [] cpos) X.env) :: backTo pos (starEach [] X.env))) _ _ s
  refine Calls.spliced_cons ?_
  refine wpAny_Call_method (T := "dict") (id := "dict.values") hbase rfl hline PySem.F.plainAttrs_dict PySem.F.slot_dict_values PySem.F.type_dict_values (thn (h.run pins s σ H (fun v H1 => v = V.ref pd ∧ H1 = H) I ⟨_, h1, rfl, rfl⟩) fun u s1 ⟨v, H1, I1, r1, ev, eH⟩ => ?_)
  subst ev
  subst eH
  obtain rfl : u = Value.ref pd := r1
  rw [← hw] at d
  obtain ⟨o, es, ep, k1, k2, k3, k4, _⟩ := raw_at (l := none) I1 d.at_
  have raw : s1.heap.DictRaw pd es ep := ⟨o, k1, k2, k3⟩
  have I2 : Inv X pins σ H1 { s1 with heap := s1.heap.push { cls := .type "dict_values", data := .fields #[.ref pd] } } := I1.kept (t' := s1.toks) fun b ob q => Heap.get?_push_of_some _ q
  refine ⟨raw.typeIs, ?_, ?_⟩
  · exact fun a z => by cases z; exact ⟨o, k1, k2.2.1⟩
  have el : es.size = vs.length := by
    have := d.vse.length
    rw [List.length_map] at this
    rw [← Array.length_toList, k4, List.length_map, this]
  have vz : vs.length ≤ sizeLine := by
    have := d.vse.length
    rw [List.length_map] at this
    rw [this]
    refine Nat.le_trans d.ln ?_
    rw [sizeLine_eq]; decide
  have fin : wpAny (model X.prog X.w) X.A (call (.type "list") [.ref s1.heap.objs.size]) (EP X pins σ Q) X.xe { s1 with heap := s1.heap.push { cls := .type "dict_values", data := .fields #[.ref pd] } } := by
    refine PySem.W.kdl_call (PySem.KdlSrc.rawValues (es := es) (ep := ep)) (I2.ok.hd hc) ⟨⟨_, Heap.get?_push_size _ rfl, rfl, rfl⟩, raw.at fun o z => Heap.get?_push_of_some _ z⟩ (by rw [el]; exact vz) fun h' tk acc' c' kp e' it => ?_
    have rv : Vals vs acc'.toList := by
      have el2 : acc'.toList.length = es.size := by rw [Array.length_toList]; exact it.1
      refine vals_of_at (by rw [el2, el]) fun j x w h1 h2 => ?_
      obtain ⟨hi, hv⟩ := it.2 j w (by rw [← Array.getElem?_toList]; exact h2)
      obtain ⟨y, y1, y2⟩ : ∃ y, xs[j]? = some y ∧ es[j].val = y.2.2 := by
        have z : es[j]? = some es[j] := Array.getElem?_eq_getElem hi
        rw [← Array.getElem?_toList, k4, List.getElem?_map] at z
        cases yy : xs[j]? with
        | none => rw [yy] at z; cases z
        | some y => rw [yy] at z; exact ⟨y, rfl, by rw [← Option.some.inj z]⟩
      obtain ⟨v', z1, z2⟩ := Vals.at d.vse (i := j) (u := y.2.2) (by rw [List.getElem?_map, y1]; rfl)
      rw [h1] at z1
      cases z1
      rw [hv, y2]
      exact z2
    refine ⟨.ref _, _, I2.laid (t' := tk) (o := .lst vs) kp (Nat.le_refl _) ?_, rfl, q _ (I2.hok.fresh (Nat.le_refl _))⟩
    exact ⟨vz, acc'.toList, c', rv, by rw [Array.toArray_toList]; exact e'⟩
  exact method_meetsIn PySem.F.slot_dict_values PySem.F.entry_dict_values rfl (PySem.evalArgs_none ⟨rfl, raw.typeIs, PySem.F.args_dict_values_1 _, _, meets_dict_values_raw pd d.sys, ⟨es, ep, raw⟩, Calls.spliced_nil fin⟩)
/-! the whole: for t in it: key = e; if key not in found: found[key] = []; found[key].append(x) -- return list(found.values()) -/
theorem seal_all {H : Hp} {σ : L2.St} {ρ : Rho} (nm : NoMut ρ) : ∀ {qs : List Addr} {xss : List (List D)} {F : Hp}, Ok c F H σ ρ → qs.Nodup → QL (QO c F H) qs xss → ∃ F', Ext F F' ∧ Ok c F' H σ ρ ∧ Reps c.G F' (qs.map V.ref) (xss.map D.lst)
  | [], _, F, I, _, .nil => ⟨F, Ext.rfl', I, .nil⟩
  | q :: qs, x :: xss, F, I, nq, .cons ⟨a1, a2, us, a3, a4⟩ r => by
    have I1 := I.seal a3 a2 a1 (nm.mutA q)
    have ex : Ext F (upd F q (.lst us)) := Ext.upd a2
    have nq' := List.nodup_cons.mp nq
    obtain ⟨F', x', I', rr⟩ := seal_all nm (F := upd F q (.lst us)) I1 nq'.2 (r.mono fun q' y hq ⟨b1, b2, ws, b3, b4⟩ => ⟨b1, by rw [upd_ne (fun z => nq'.1 (by rw [← z]; exact hq))]; exact b2, ws, b3, b4.ext ex⟩)
    exact ⟨F', ex.trans x', I', .cons (.lst (x' _ _ upd_same) (a4.ext (ex.trans x'))) rr⟩
def gLoop (t : Tg) (iK iP : Nat) (e : SE) : List D → Rho → List NestedKey → List (List D) → Option (Rho × List NestedKey × List (List D))
  | [], ρ, ks, xss => some (ρ, ks, xss)
  | d :: ds, ρ, ks, xss => match tgt t d ρ with
    | some ρ1 => match e (blkR [] ρ1) with
      | some (kd, ρ2) => match restore ρ1 ρ2 with
        | some r => match fitB true kd, (r.set iK (.val kd))[iP]?, (r.set iK (.val kd))[iK]? with
          | some key, some (.val pd), some _ => gLoop t iK iP e ds (r.set iK (.val kd)) (pkN ks key) (gPut ks xss key pd)
          | _, _, _ => none
        | none => none
      | none => none
    | none => none
def kGroup (it : SI) (t : Tg) (iF iK iP : Nat) (e : SE) : SS := fun ρ => match it ρ with
  | some (ds, ρ1) => match ρ1[iF]? with
    | some (.dic true [] []) => if ds.length ≤ LN ∧ noM (ρ1.set iF .no) = true then match gLoop t iK iP e ds (ρ1.set iF .no) [] [] with
      | some (ρ2, _, xss) => some (.rt (.lst (xss.map .lst)), ρ2)
      | none => none
      else none
    | _ => none
  | none => none
theorem adr_reps {F : Hp} : ∀ {vs : List V} {qs : List Addr}, Reps c.G F vs (qs.map D.adr) → vs = qs.map V.ref
  | _, [], h => by cases h; rfl
  | _, q :: qs, h => by
    cases h with
    | cons h r =>
      cases h with
      | adr => rw [List.map_cons, adr_reps r]
theorem reps_adr {F : Hp} : ∀ {qs : List Addr}, Reps c.G F (qs.map V.ref) (qs.map D.adr)
  | [] => .nil
  | q :: qs => .cons (.adr q) reps_adr
/-- found[key] = [], where key is new -/
theorem Gh.open {F H : Hp} {σ : L2.St} {ρ : Rho} {iF : Nat} {ks : List NestedKey} {xss : List (List D)} {p : Addr} {qs : List Addr} {vs : List V} (I : Ok c F H σ ρ) (nm : NoMut ρ) (g : Gh c F H σ iF ks xss p qs vs) {q : Addr} (hq : H q = none) (key : NestedKey) (nk : key ∉ ks) {u : HO} {vs' : List V}
    (du : dicU c.G.w p u) (da : DicAt c.G.w true none F (upd (upd H q (.lst [])) p u) p (pkN ks key) vs') (rs : Reps c.G F vs' (pvN ks (qs.map D.adr) key (.adr q))) :
    Ok c F (upd (upd H q (.lst [])) p u) σ ρ ∧ Gh c F (upd (upd H q (.lst [])) p u) σ iF (pkN ks key) (xss ++ [[]]) p (qs ++ [q]) vs' := by
  obtain ⟨u0, hh, du0, _⟩ := g.da.u
  have np : p ≠ q := fun z => by rw [z, hq] at hh; cases hh
  have I1 := I.grow (Grow.raw (o := .lst []) I.fh hq)
  have hp1 : upd H q (.lst []) p = some u0 := by rw [upd_ne np]; exact hh
  have I2 := I1.othX nm hp1 du0.nt du0.nc (du0.nl none) g.pF g.p0 u
  refine ⟨I2, g.sl, g.p0, g.pF, da, ?_, ?_, ?_⟩
  · unfold pvN at rs
    rw [if_neg nk] at rs
    rw [List.map_append]
    exact rs
  · rw [List.nodup_append]
    refine ⟨g.nq, by simp, fun a ha b hb z => ?_⟩
    rw [List.mem_singleton] at hb
    subst hb; subst z
    obtain ⟨x, _, _, _, us, h1, _⟩ := g.ql.mem ha
    rw [hq] at h1; cases h1
  · have pq := g.ne
    refine QL.snoc ⟨I.no_H0 hq, ext_none I.fh hq, [], by rw [upd_ne (Ne.symm np)]; exact upd_same, .nil⟩ (g.ql.mono fun q' x hq' ⟨a1, a2, us, a3, a4⟩ => ⟨a1, a2, us, ?_, a4⟩)
    have z1 : q' ≠ p := fun z => pq (by rw [← z]; exact hq')
    have z2 : q' ≠ q := fun z => by rw [z, hq] at a3; cases a3
    rw [upd_ne z1, upd_ne z2]
    exact a3
/-- found[key].append(x) -/
theorem Gh.app {F H : Hp} {σ : L2.St} {ρ : Rho} {iF : Nat} {ks : List NestedKey} {xss : List (List D)} {p : Addr} {qs : List Addr} {vs : List V} (I : Ok c F H σ ρ) (nm : NoMut ρ) (g : Gh c F H σ iF ks xss p qs vs) {key : NestedKey} {q : Addr} (hl : lkN ks (qs.map D.adr) key = some (.adr q)) {us : List V} (hq : H q = some (.lst us)) {w : V} {pd : D} (rw' : Rep c.G F w pd) :
    Ok c F (upd H q (.lst (us ++ [w]))) σ ρ ∧ Gh c F (upd H q (.lst (us ++ [w]))) σ iF ks (mpA ks xss key pd) p qs vs := by
  obtain ⟨q', m1, m2⟩ := lkN_adr hl
  cases m2
  obtain ⟨x0, _, b0, bF, us0, b1, b2⟩ := g.ql.mem m1
  rw [hq] at b1; cases b1
  have np : p ≠ q := fun z => g.ne (by rw [z]; exact m1)
  refine ⟨I.othX nm hq (fun _ z => by cases z) nc_lst nl_lst bF b0 _, g.sl, g.p0, g.pF, g.da.ext Ext.rfl' fun o k => by rw [upd_ne np]; exact k, g.rs, g.nq, ?_⟩
  refine QL.app g.ql g.klen g.knd g.nq hl (fun x ⟨a1, a2, ws, a3, a4⟩ => ⟨a1, a2, us ++ [w], upd_same, ?_⟩) fun q' x _ hn ⟨a1, a2, ws, a3, a4⟩ => ⟨a1, a2, ws, by rw [upd_ne hn]; exact a3, a4⟩
  rw [hq] at a3; cases a3
  exact a4.append (.one rw')
theorem sets_get {is : List Nat} : ∀ {ds : List D} {ρ ρ' : Rho} {i : Nat}, sets is ds ρ = some ρ' → i ∉ is → ρ'[i]? = ρ[i]? := by
  induction is with
  | nil => intro ds ρ ρ' i h _; cases ds <;> (unfold sets at h; cases h); rfl
  | cons j is ih =>
    intro ds ρ ρ' i h n
    cases ds with
    | nil => unfold sets at h; cases h
    | cons d ds =>
      unfold sets at h
      rw [ih h fun z => n (List.mem_cons_of_mem _ z), List.getElem?_set_ne fun z => n (by rw [z]; exact List.mem_cons_self)]
/-- one turn -/
theorem group_turn {iF iK iP : Nat} {e : SE} {F H : Hp} {σ : L2.St} {ρ : Rho} {ks : List NestedKey} {xss : List (List D)} {p : Addr} {qs : List Addr} {vs : List V} (hFK : iF ≠ iK)
    (I : Ok c F H σ ρ) (nm : NoMut ρ) (g : Gh c F H σ iF ks xss p qs vs) {kd : D} {ρ2 r : Rho} (h2 : e (blkR [] ρ) = some (kd, ρ2)) (h3 : restore ρ ρ2 = some r) {key : NestedKey} {pd : D} (h4 : fitB true kd = some key) (h5 : (r.set iK (.val kd))[iP]? = some (.val pd))
    {s6 : Sl} (h6 : (r.set iK (.val kd))[iK]? = some s6) (hk : ks.length < LN) (hx : ∀ x ∈ xss, x.length < LN) (E : Ends) (q : ∀ σ' H' F' p qs vs, Ext F F' → Ok c F' H' σ' (r.set iK (.val kd)) → Gh c F' H' σ' iF (pkN ks key) (gPut ks xss key pd) p qs vs → E.nx σ' H') :
    tSeq (tAsg (vtX c.G e) (gName iK)) (tSeq (tIfS (tTest (tOp (rInX c.G true) (tVar iK) (tVar iF))) (tAsg (tLst tNil) (L2.gSub (tVar iF) (tVar iK) (rSetB c.G))) tNext) (tDrop (tBM X.K "list" rAppend (tOp (rIxX c.G) (tVar iF) (tVar iK)) (tCons (tVar iP) tNil)))) E σ H := by
  have J := I.enter []
  refine ⟨F, H, mutA σ ρ, F, _, J, kd, ρ2, h2, fun v H3 F3 x3 J3 r3 => ?_⟩
  have I3 := I.leave J3 (rfl : wipe σ [] = wipe σ []) h3 (fun _ _ _ _ _ => by simp)
  have I4 := I3.put iK r3
  have nm4 : NoMut (r.set iK (.val kd)) := (nm.restore h3).setS iK rfl
  have g4 : Gh c F3 H3 (σ.set iK (some v)) iF ks xss p qs vs := g.move (by rw [List.getElem?_set_ne (Ne.symm hFK)]) x3 (fun a o h nt => J3.fr a o h (nm.mutA a) nt) (fun a o h n => J3.n0 a o h n)
  have sK : (σ.set iK (some v))[iK]? = some (some v) := by
    have hl : iK < r.length := by have := (List.getElem?_eq_some_iff.mp h6).1; rwa [List.length_set] at this
    rw [List.getElem?_set_self (by rw [I3.len]; exact hl)]
  obtain ⟨ow, sP, rP⟩ := I4.sl iP _ h5
  obtain ⟨w, rfl, rP⟩ : ∃ w, ow = some w ∧ Rep c.G F3 w pd := by
    cases ow with
    | none => exact rP.elim
    | some w => exact ⟨w, rfl, rP⟩
  show tSeq (tIfS (tTest (tOp (rInX c.G true) (tVar iK) (tVar iF))) (tAsg (tLst tNil) (L2.gSub (tVar iF) (tVar iK) (rSetB c.G))) tNext) (tDrop (tBM X.K "list" rAppend (tOp (rIxX c.G) (tVar iF) (tVar iK)) (tCons (tVar iP) tNil))) E (σ.set iK (some v)) H3
  generalize σ.set iK (some v) = σ4 at *
  generalize r.set iK (.val kd) = ρ4 at *
  refine ⟨_, sK, _, g4.sl, F3, true, p, ks, _, kd, key, rfl, I4.fh, ⟨none, vs, g4.da, g4.rs⟩, r3, h4, _, rfl, ?_⟩
  -- the append
  have fin : ∀ H5 ks' xss' qs' vs', Ok c F3 H5 σ4 ρ4 → Gh c F3 H5 σ4 iF ks' xss' p qs' vs' → ks' = pkN ks key → mpA ks' xss' key pd = gPut ks xss key pd → (∀ x ∈ xss', x.length < LN) → key ∈ ks' →
      tDrop (tBM X.K "list" rAppend (tOp (rIxX c.G) (tVar iF) (tVar iK)) (tCons (tVar iP) tNil)) E σ4 H5 := fun H5 ks' xss' qs' vs' I5 g5 ek ex hx' hm => by
    have hs := (lkN_some (k := key) (ds := qs'.map D.adr) (by rw [List.length_map]; exact g5.klen)).mpr hm
    obtain ⟨d0, hl⟩ := Option.isSome_iff_exists.mp hs
    obtain ⟨q0, m1, rfl⟩ := lkN_adr hl
    obtain ⟨x0, mx, b0, bF, us0, b1, b2⟩ := g5.ql.mem m1
    refine ⟨_, g5.sl, _, sK, F3, true, p, ks', _, kd, key, _, rfl, I5.fh, ⟨none, vs', g5.da, g5.rs⟩, r3, h4, hl, fun v0 rv0 => ?_⟩
    cases rv0 with
    | adr =>
      refine ⟨.inl ⟨rfl, us0, .of b1⟩, w, sP, _, us0, w, rfl, rfl, b1, ?_, ?_⟩
      · rw [b2.length]; exact Nat.lt_of_lt_of_le (hx' x0 mx) (ln_fit (Nat.le_refl _))
      · obtain ⟨I6, g6⟩ := Gh.app I5 nm4 g5 hl b1 rP
        rw [ex, ek] at g6
        exact q _ _ _ _ _ _ x3 I6 g6
  by_cases hm : key ∈ ks
  · have hs := (lkN_some (k := key) (ds := qs.map D.adr) (by rw [List.length_map]; exact g4.klen)).mpr hm
    rw [hs]
    show tNext _ _ _
    exact fin H3 ks xss qs vs I4 g4 (by unfold pkN; rw [if_pos hm]) (by unfold gPut pkN; rw [if_pos hm, if_pos hm]) hx hm
  · have hs : (lkN ks (qs.map D.adr) key).isSome = false := by
      have := mt (lkN_some (k := key) (ds := qs.map D.adr) (by rw [List.length_map]; exact g4.klen)).mp hm
      simpa using this
    rw [hs]
    show (if (true : Bool) = true then tAsg (tLst tNil) (L2.gSub (tVar iF) (tVar iK) (rSetB c.G)) _ _ _ else _)
    rw [if_pos rfl]
    refine ⟨Nat.zero_le _, fun q0 hq0 => ?_⟩
    obtain ⟨u0, hh, du0, _⟩ := g4.da.u
    have np : p ≠ q0 := fun z => by rw [z, hq0] at hh; cases hh
    refine ⟨_, g4.sl, _, sK, F3, true, p, ks, vs, qs.map D.adr, kd, .adr q0, key, rfl, I4.fh.trans (Ext.upd hq0), g4.da.ext Ext.rfl' (fun o k => by rw [upd_ne np]; exact k), g4.rs, r3, h4, .adr q0, hk, fun u vs' du da rs => ?_⟩
    obtain ⟨I5, g5⟩ := Gh.open I4 nm4 g4 hq0 key hm du da rs
    refine fin _ _ _ _ _ I5 g5 rfl (by unfold gPut; rw [if_neg hm]) (fun x hx' => ?_) (by unfold pkN; rw [if_neg hm]; simp)
    rcases List.mem_append.mp hx' with z | z
    · exact hx x z
    · rw [List.mem_singleton] at z; subst z; show 0 < LN; decide
theorem ps_gIf {iF iK : Nat} {x f : Str} {p1 p2 p3 p4 pc pl tpos pos2 pos : Pos} (hw : X.w = c.G.w) (hu : X.A.units + 16 < cLine) (hF : PE X (.Name f p1) (tVar iF)) (hF' : PE X (.Name f p2) (tVar iF)) (hK : PE X (.Name x p3) (tVar iK)) (hK' : PE X (.Name x p4) (tVar iK))
    (ha : ∀ v, assign (.Subscript (.Name f p2) (.Name x p4) tpos) X.env v = (do
      let ov ← holding [v] (eval (.Name f p2) X.env)
      let iv ← holding [v, ov] (eval (.Name x p4) X.env)
      standAt tpos
      holding [v, ov, iv] (setItem ov iv v)
      release [v, ov, iv] []) := by intro _; rfl)
    (hs : swapsWithSole [.Subscript (.Name f p2) (.Name x p4) tpos] (.List [] pl) pos2.line X.env = pure false := by rfl) (hq : swappedStores [.Subscript (.Name f p2) (.Name x p4) tpos] (.List [] pl) X.env = pure none := by rfl)
    (h1 : (assignEach [.Subscript (.Name f p2) (.Name x p4) tpos] X.env).map (·.2) = [assign (.Subscript (.Name f p2) (.Name x p4) tpos) X.env] := by rfl) (hm : behindInMarks .NotIn (.Name f p1) = false := by first | exact nomark _ | rfl) :
    PS X (.If (.Compare (.Name x p3) [.NotIn] [.Name f p1] pc) [.Assign [.Subscript (.Name f p2) (.Name x p4) tpos] (.List [] pl) pos2] [] pos) (tIfS (tTest (tOp (rInX c.G true) (tVar iK) (tVar iF))) (tAsg (tLst tNil) (L2.gSub (tVar iF) (tVar iK) (rSetB c.G))) tNext) :=
  ps_if (pt_cmpR (op_inX true hw hu) hK hF hm) (pss_one (ps_asg (pe_lst pa_nil) (pg_sub hF' hK' (set_dicB hw hu) ha) hs hq h1)) pss_nil
theorem ps_gApp {iF iK iP : Nat} {x f y : Str} {p1 p2 p3 ps apos cpos pos : Pos} (hw : X.w = c.G.w) (hu : X.A.units + 16 < cLine) (hF : PE X (.Name f p1) (tVar iF)) (hK : PE X (.Name x p2) (tVar iK)) (hP : PE X (.Name y p3) (tVar iP))
    (hbase : attributeBase (.Subscript (.Name f p1) (.Name x p2) ps) "append" X.env (eval (.Subscript (.Name f p1) (.Name x p2) ps) X.env) = eval (.Subscript (.Name f p1) (.Name x p2) ps) X.env := by rfl)
    (hfew : ((backTo cpos (starEach [.Name y p3] X.env)).all (fun x => !x.1) && (backToKw cpos (keywordEach [] X.env)).all (fun x => x.1.isSome)
      && decide ([Expr.Name y p3].length + ([] : List Keyword).length + (if ([] : List Keyword).isEmpty then 0 else 1) < 30)) = true := by rfl)
    (hline : (apos.endLine == cpos.line) = true := by rfl) (hst : starEach [.Name y p3] X.env = (false, eval (.Name y p3) X.env) :: starEach [] X.env := by rfl) (hpl : (backTo cpos (starEach [] X.env)).any (·.1) = false := by rfl)
    (hs : swapsWith (.Call (.Attribute (.Subscript (.Name f p1) (.Name x p2) ps) "append" apos) [.Name y p3] [] cpos) none pos.line X.env = pure false := by rfl) (hx : PlainIx (.Name x p2) := by exact fun _ _ => rfl) :
    PS X (.Expr (.Call (.Attribute (.Subscript (.Name f p1) (.Name x p2) ps) "append" apos) [.Name y p3] [] cpos) pos) (tDrop (tBM X.K "list" rAppend (tOp (rIxX c.G) (tVar iF) (tVar iK)) (tCons (tVar iP) tNil))) :=
  ps_expr (pe_bm PySem.F.plainAttrs_list PySem.F.slot_list_append PySem.F.type_list_append (id := "list.append") (fun pins s σ H x xs v us Q I rx rv q => mt_append pins s σ H x xs v us Q I rx rv q) (pe_ix (ix_X hw hu) hF hK hx) (pa_cons hP pa_nil hst) hbase hfew hline hst hpl) hs
theorem pkg_len {ks : List NestedKey} {k : NestedKey} {n : Nat} (h : ks.length ≤ n) : (pkN ks k).length ≤ n + 1 := by
  unfold pkN
  split
  · omega
  · rw [List.length_append]; simp; omega
theorem gPut_len {ks : List NestedKey} {xss : List (List D)} {k : NestedKey} {d : D} {n : Nat} (h : ∀ x ∈ xss, x.length ≤ n) : ∀ x ∈ gPut ks xss k d, x.length ≤ n + 1 := by
  unfold gPut
  refine QL.app_len fun x hx => ?_
  split at hx
  · exact h x hx
  · rcases List.mem_append.mp hx with z | z
    · exact h x z
    · rw [List.mem_singleton] at z; subst z; exact Nat.zero_le _
theorem vss_group {tg iter re : Expr} {s1 s2 s3 : Stmt} {it : SI} {t : Tg} {iF iK iP : Nat} {e : SE} {pos pos' : Pos} (hp : PassesOwn (model X.prog X.w) X.A X.env X.xe) (hc : X.calm = true) (hi : PI X tg iter (vi c it)) (hg : PG X tg (gT X.K t))
    (h1 : PS X s1 (tAsg (vtX c.G e) (gName iK))) (h2 : PS X s2 (tIfS (tTest (tOp (rInX c.G true) (tVar iK) (tVar iF))) (tAsg (tLst tNil) (L2.gSub (tVar iF) (tVar iK) (rSetB c.G))) tNext))
    (h3 : PS X s3 (tDrop (tBM X.K "list" rAppend (tOp (rIxX c.G) (tVar iF) (tVar iK)) (tCons (tVar iP) tNil)))) (h4 : PE X re (tLV c.G iF)) (hFK : iF ≠ iK := by decide) (hFt : iF ∉ t.ix := by decide)
    (hs : ∀ x, foldedSetIterable iter X.env x = pure x := by intro _; rfl) : PSs X [.For tg iter [s1, s2, s3] [] pos, .Return (some re) pos'] (vs c (kGroup it t iF iK iP e)) :=
  pss_of (pss_cons (ps_for hp hc hi hg (pss_cons h1 (pss_cons h2 (pss_one h3))) hs) (pss_one (ps_ret h4))) fun σ H E ⟨F, ρ, I, fl, ρ', e0, q⟩ => by
    unfold kGroup at e0
    split at e0
    · rename_i ds ρ1 e1
      split at e0
      · rename_i e2
        split at e0
        · rename_i hc0
          split at e0
          · rename_i ρ2 ks0 xss0 e3
            cases e0
            refine ⟨F, ρ, I, ds, ρ1, e1, fun J H1 F1 x1 I1 y => ?_⟩
            obtain ⟨p1, vs1, g1, g2, g3, g4, g5⟩ := I1.ownD e2
            refine ⟨fun i m σ H => m = ds.length - i ∧ i ≤ ds.length ∧ ∃ F2 ρ2' ks xss p qs vs, Ok c F2 H σ ρ2' ∧ Ext F1 F2 ∧ NoMut ρ2' ∧ Gh c F2 H σ iF ks xss p qs vs ∧ ks.length ≤ i ∧ (∀ x ∈ xss, x.length ≤ i) ∧ gLoop t iK iP e (ds.drop i) ρ2' ks xss = some (ρ', ks0, xss0),
              ⟨ds.length, by simp, Nat.zero_le _, F1, ρ1.set iF .no, [], [], p1, [], vs1, I1.forget iF, Ext.rfl', noM_of hc0.2, ⟨g1, g2, g3, g4, g5, List.nodup_nil, .nil⟩, Nat.le_refl _, fun x hx => absurd hx (by simp), e3⟩, ?_⟩
            rintro i m σ2 H2 ⟨rfl, hi, F2, ρ2', ks, xss, p, qs, vs, I2, x2, nm, g, hk, hx, e4⟩
            obtain ⟨y1, y2⟩ := y F2 H2 x2 I2.fh
            by_cases hlt : i < ds.length
            · rw [List.drop_eq_getElem_cons hlt] at e4
              unfold gLoop at e4
              obtain ⟨w1, w2⟩ := y1 i ds[i] (by simp [hlt])
              split at e4
              · rename_i ρ3 a3
                split at e4
                · rename_i kd ρ4 a4
                  split at e4
                  · rename_i r a5
                    split at e4
                    · rename_i key pd s6 b1 b2 b3
                      refine .inr ⟨w1, fun σ' H' => i + 1 ≤ ds.length ∧ ∃ F2 ρ2' ks xss p qs vs, Ok c F2 H' σ' ρ2' ∧ Ext F1 F2 ∧ NoMut ρ2' ∧ Gh c F2 H' σ' iF ks xss p qs vs ∧ ks.length ≤ i + 1 ∧ (∀ x ∈ xss, x.length ≤ i + 1) ∧ gLoop t iK iP e (ds.drop (i + 1)) ρ2' ks xss = some (ρ', ks0, xss0), fun σ' H' ⟨z1, z2⟩ => ⟨ds.length - (i + 1), by omega, rfl, z1, z2⟩, fun x H' yy => ?_⟩
                      obtain ⟨F3, gr, r3⟩ := w2 x H' yy
                      refine tgt_w (I2.grow gr) r3 a3 fun σ4 I4 hw => ?_
                      have nm4 := nm.tgt a3
                      have hn : σ4[iF]? = σ2[iF]? := by
                        have z := congrArg (·[iF]?) (hw t.ix fun i hi => hi)
                        simp only [wipe_get, if_neg hFt] at z
                        exact z
                      have g' := g.move hn gr.f (fun a o h _ => gr.h a o h) (fun a o h n => gr.n a o h n)
                      refine group_turn (X := X) (s6 := s6) hFK I4 nm4 g' a4 a5 b1 b2 b3 (by omega) (fun x hx' => by have := hx x hx'; omega) _ fun σ' H' F' p qs vs x6 I6 g6 => ?_
                      exact ⟨hlt, F', _, _, _, p, qs, vs, I6, (x2.trans gr.f).trans x6, (nm4.restore a5).setS iK rfl, g6, pkg_len hk, gPut_len hx, e4⟩
                    · cases e4
                  · cases e4
                · cases e4
              · cases e4
            · have hi' : i = ds.length := by omega
              subst hi'
              rw [List.drop_length] at e4
              unfold gLoop at e4
              cases e4
              refine .inl ⟨y2, ?_⟩
              refine ⟨F2, p, _, vs, g.sl, I2.fh, g.da, fun q0 hq0 => ?_⟩
              obtain ⟨F3, x3, I3, r3⟩ := seal_all nm I2 g.nq g.ql
              have ev := adr_reps g.rs
              rw [← ev] at r3
              have gr : Grow F3 H2 (upd F3 q0 (.lst vs)) (upd H2 q0 (.lst vs)) := .new I3.fh hq0
              exact q _ σ2 _ _ ((x1.trans x2).trans (x3.trans gr.f)) (I3.grow gr) (.lst upd_same (r3.ext gr.f))
          · cases e0
        · cases e0
      · cases e0
    · cases e0
end
end VS

set_option Elab.async false
set_option linter.all false
set_option maxRecDepth 100000
set_option maxHeartbeats 4000000
namespace VS
open PySem PySem.Spec PyProof.Rows L2
/-! bool(x) of an object with __bool__ -/
theorem meets_bool_ref {prog : Program} {w : World} (a : Addr) : MeetsIn prog w (Builtin.«bool.__new__» ⟨[.type "bool", .ref a], []⟩)
    (fun A R s => wpAny (model prog w) A.in1 (truthy (.ref a)) (fun b s' => R (.ok (.ret (.bool b))) s') (fun e s' => R (.error e) s') s) :=
  .of_wp fun A R s h => by
    have f1 := F.conv_sub_bool
    obtain ⟨hp, g, d, tk, os⟩ := s
    repeat (any_goals (first | assumption | (with_reducible refine wpAny_mono h ?_ ?_) | wp_step))
    all_goals first | (intro b s' hb; exact wpAny_pure ⟨_, rfl, hb⟩) | (intro b s' hb; exact hb) | skip
section
variable {c : Ctx} {X : Cx} {k t : Nat} {m : Mir} {a : Expr} {sa : SE} {pos : Pos}
def sBoolO (t : Nat) (m : Mir) (a : SE) : SE := fun ρ => match sMt1 t m a ρ with
  | some (.bl b, ρ1) => some (.bl b, ρ1)
  | _ => none
theorem ve_boolO {p : Pos} (C : CalO X.prog X.w c.G X.mg X.base t "__bool__" k 1 m) (hK : X.K = c.G.K) (hr : Room (k + 2) X.A) (hm : X.mg "bool" = none) (ha : PE X a (vt c sa)) (hg : Gl X "bool" := by rfl) (he : starEach [a] X.env = (false, eval a X.env) :: starEach [] X.env := by rfl) (hpl : (backTo pos (starEach [] X.env)).any (·.1) = false := by rfl) :
    PE X (.Call (.Name "bool" p) [a] [] pos) (vt c (sBoolO t m sa)) := by
  obtain ⟨f, fd, ps, h1, h2, h3, h4, h5⟩ := C.ex
  rw [← hK] at h1 h2 h4 h5
  have rule : CallR X (.type "bool") (fun xs H Q => ∃ x, xs = [x] ∧ rMt1 c.G t m x H fun v H' => ∃ b : Bool, v = .bl b ∧ Q (.bl b) H') := by
    intro pins s σ H xs us Q I r ⟨x, ex, ⟨aa, dx, ws, ea, hA⟩, sp⟩
    subst ex; subst ea
    cases r with
    | cons r1 rr =>
      cases rr
      rename_i u
      obtain rfl : u = Value.ref aa := r1
      obtain ⟨od, J⟩ := inst_at I hA
      obtain ⟨mm, hF⟩ := I.fr
      refine callType_newIn F.called_bool F.newNe_bool (F.typeCall_bool_1 _) (F.newCall_bool_1 _) (fun obj => F.args_object_init_2 obj _) F.entry_bool_new (meets_bool_ref aa) ?_
      refine PySem.W.truthy_K hF I.ok.mod.kin J h1 h2 (wpAny_mono (run_at h5 hr.in1.in1 rfl h4 I (.cons relA .nil) sp) (fun w' s' z => ?_) fun _ _ z => z)
      obtain ⟨z', H', I', rz, b', eb, qz⟩ := z
      subst eb
      cases rz
      exact ⟨rfl, .bl b', H', I', rfl, qz⟩
  refine pe_of (pe_callTy rule hg hm (by rfl) (pa_cons ha pa_nil he) (he := he) (hpl := hpl)) fun σ H Q ⟨F, ρ, I, d, ρ', e0, q⟩ => ?_
  unfold sBoolO at e0
  split at e0
  · rename_i b ρ1 e1
    cases e0
    have w := mt1_w (c := c) (t := t) (m := m) (sa := sa) σ H (fun v H' => ∃ b : Bool, v = .bl b ∧ Q (.bl b) H') ⟨F, ρ, I, _, ρ', e1, fun v H' F' x' J' r' => ⟨b, r'.bl_inv, q _ H' F' x' J' (.bl b)⟩⟩
    obtain ⟨F0, ρ0, I0, d0, ρ0', k1, k2⟩ := w
    exact ⟨F0, ρ0, I0, d0, ρ0', k1, fun v H' F' x' J' r' => ⟨v, rfl, k2 v H' F' x' J' r'⟩⟩
  · cases e0
end
end VS

set_option Elab.async false
set_option linter.all false
set_option maxRecDepth 100000
set_option maxHeartbeats 4000000
namespace VS
open PySem PySem.Spec PyProof.Rows L2
/-! a list so many times -/
def gRepL : G2
  | .lst a, .int k => if -(2 ^ 63) ≤ k ∧ k < 2 ^ 63 ∧ a.length * k.toNat ≤ LN then some (.lst (List.replicate k.toNat a).flatten) else none
  | _, _ => none
theorem Reps.rep {G : Gx} {F : Hp} {vs : List V} {ds : List D} (h : Reps G F vs ds) : ∀ n : Nat, Reps G F (List.replicate n vs).flatten (List.replicate n ds).flatten
  | 0 => .nil
  | n + 1 => by
    rw [List.replicate_succ, List.replicate_succ, List.flatten_cons, List.flatten_cons]
    exact h.append (Reps.rep h n)
theorem od_rep {c : Ctx} {X : Cx} : OpD c X (binaryOp .Mult) gRepL := opr_of op_rep fun x y H Q ⟨F, a, b, d, e, ra, rb, hg, q⟩ => by
  unfold gRepL at hg
  split at hg
  · split at hg
    · rename_i h
      cases hg
      cases ra with
      | lst h1 r1 =>
        cases rb
        exact ⟨_, _, _, rfl, rfl, e _ _ h1, h.1, h.2.1, by rw [r1.length]; exact ln_fit h.2.2, fun p hp => q.newL e (r1.rep _) p hp⟩
    · cases hg
  · cases hg
end VS

set_option Elab.async false
set_option linter.all false
set_option maxRecDepth 100000
set_option maxHeartbeats 4000000
namespace VS
open PySem PySem.Spec PyProof.Rows L2
/-! a def that calls itself: at its deepest it is not asked -/
theorem vs_nev {X : Cx} {c : Ctx} {body : List Stmt} : PSs X body (vs c kNever) := ⟨fun _ _ _ _ _ _ ⟨_, _, _, _, _, e, _⟩ => by cases e⟩
end VS

set_option Elab.async false
set_option linter.all false
set_option maxRecDepth 100000
set_option maxHeartbeats 4000000
namespace VS
open PySem PySem.Spec PyProof.Rows L2
/-! a list of one's own, lent as a value to an expression; walked by a for; a new list of a callee's as a value -/
def hideS (s : Sl) : Sl := if s.mut then .no else s
def lendR (i : Nat) (xs : List D) (ρ : Rho) : Rho := (ρ.map hideS).set i (.val (.lst xs))
def flat1 : D → Bool
  | .lst ds => ds.all flatD
  | d => flatD d
def tupHd : List D → Bool
  | .tup _ :: _ => true
  | _ => false
def sLend (i : Nat) (s : SE) : SE := fun ρ => match ρ[i]? with
  | some (.own xs) => if tupHd xs = true then match s (lendR i xs ρ) with
    | some (d, _) => if flat1 d = true then some (d, ρ) else none
    | none => none
    else none
  | _ => none
def sLendB (i : Nat) (s : SB) : SB := fun ρ => match ρ[i]? with
  | some (.own xs) => match s (lendR i xs ρ) with
    | some (b, _) => some (b, ρ)
    | none => none
  | _ => none
def sCallF (n : Nat) (m : MirM) (a : SA) : SE := fun ρ => match a ρ with
  | some (xs, ρ1) => if xs.length = n then match m (xs.map .val) with
    | some ys => some (.lst ys, ρ1)
    | none => none
    else none
  | none => none
def kLoopO (i : Nat) (t : Tg) (tt : SB) : Nat → Nat → SS
  | 0, _, _ => none
  | n + 1, j, ρ => match conM ρ i with
    | some xs => match xs[j]? with
      | none => some (.nx, ρ)
      | some d => if i ∈ t.ix then none else match tgt t d ρ with
        | some ρ1 => match tt ρ1 with
          | some (false, ρ2) => kLoopO i t tt n (j + 1) ρ2
          | _ => none
        | none => none
    | none => none
def kForO (i : Nat) (t : Tg) (tt : SB) : SS := fun ρ => match conM ρ i with
  | some xs => kLoopO i t tt (xs.length + 1) 0 ρ
  | none => none
section
variable {c : Ctx} {X : Cx}
theorem hideS_mut (s : Sl) : (hideS s).mut = false := by
  unfold hideS
  cases h : s.mut with
  | true => rfl
  | false => exact h
theorem lendR_get {i : Nat} {xs : List D} {ρ : Rho} {j : Nat} {s : Sl} (h : (lendR i xs ρ)[j]? = some s) : s.mut = false ∧ (s = .no ∧ j < ρ.length ∨ (ρ.set i (.val (.lst xs)))[j]? = some s) := by
  unfold lendR at h
  by_cases hj : i = j
  · subst hj
    have hl : i < ρ.length := by
      have := (List.getElem?_eq_some_iff.mp h).1
      simpa using this
    rw [List.getElem?_set_self (by simpa using hl)] at h
    cases h
    exact ⟨rfl, .inr (List.getElem?_set_self hl)⟩
  · rw [List.getElem?_set_ne hj, List.getElem?_map] at h
    rw [List.getElem?_set_ne hj]
    cases e : ρ[j]? with
    | none => rw [e] at h; cases h
    | some s0 =>
      rw [e] at h
      cases h
      refine ⟨hideS_mut s0, ?_⟩
      unfold hideS
      split
      · exact .inl ⟨rfl, (List.getElem?_eq_some_iff.mp e).1⟩
      · exact .inr rfl
theorem Ok.lend {F H : Hp} {σ : L2.St} {ρ : Rho} {i : Nat} {xs : List D} (I : Ok c F H σ ρ) (h : ρ[i]? = some (.own xs)) :
    ∃ p us, F p = none ∧ Reps c.G F us xs ∧ Ok ⟨c.G, upd F p (.lst us), H, []⟩ (upd F p (.lst us)) H σ (lendR i xs ρ) := by
  obtain ⟨p, us, h1, h2, h3, h4, I1⟩ := I.freeze h
  refine ⟨p, us, h3, h4, ⟨?_, Ext.rfl', I1.fh, fun _ _ e _ _ => e, fun _ o e => ⟨o, e⟩, fun _ _ _ e => e, fun j s hs => ?_, fun a b s t pa qb ha hb ms mt hpa hqb e => ?_, fun _ e => (by simp at e), I1.tb⟩⟩
  · have := I.len
    unfold lendR
    rw [List.length_set, List.length_map]
    exact this
  · obtain ⟨m, g⟩ := lendR_get hs
    rcases g with ⟨g, hl⟩ | g
    · subst g
      have hl' : j < σ.length := by rw [I.len]; exact hl
      refine ⟨σ[j], List.getElem?_eq_getElem hl', ?_⟩
      cases σ[j] <;> trivial
    · obtain ⟨ov, k1, k2⟩ := I1.sl j s g
      refine ⟨ov, k1, ?_⟩
      cases s with
      | no => cases ov <;> trivial
      | val d =>
        cases ov with
        | none => exact k2
        | some v => exact k2
      | own ys => cases m
      | bor ys => cases m
      | slf k ys => cases m
      | dic b ks ys => cases m
      | lam f =>
        cases ov with
        | none => exact k2
        | some v => exact k2
  · rw [(lendR_get ha).1] at ms
    cases ms
theorem Keep.unlend {G : Gx} {F H F' H' : Hp} {p : Addr} {us : List V} {σ : L2.St} {ρ' : Rho} (hF : F p = none) (J : Ok ⟨G, upd F p (.lst us), H, []⟩ F' H' σ ρ') :
    Keep G.T [] F H (fun q => if q = p then none else F' q) H' := by
  have f0 : Ext (upd F p (.lst us)) F' := J.f0
  have n0 : ∀ q o, H q = some o → upd F p (.lst us) q = none → F' q = none := J.n0
  have fr : ∀ q o, H q = some o → q ∉ [] → (∀ ps, o ≠ .tbl ps) → H' q = some o := J.fr
  have al : ∀ q o, H q = some o → ∃ o', H' q = some o' := J.al
  refine ⟨fun q o e => ?_, fun q o e => ?_, fr, al, fun q o e e2 => ?_, fun _ => ⟨J.tb.t, fun q hq => ?_⟩⟩
  · have n : q ≠ p := fun z => by rw [z, hF] at e; cases e
    show (if q = p then none else F' q) = some o
    rw [if_neg n]
    exact f0 q o (by rw [upd_ne n]; exact e)
  · have e : (if q = p then none else F' q) = some o := e
    split at e
    · cases e
    · exact J.fh q o e
  · show (if q = p then none else F' q) = none
    split
    · rfl
    · rename_i n
      exact n0 q o e (by rw [upd_ne n]; exact e2)
  · show (if q.1 = p then none else F' q.1) = none
    split
    · rfl
    · exact J.tb.n q hq
theorem flatD_any {G : Gx} {F F' : Hp} {v : V} {d : D} (r : Rep G F v d) (h : flatD d = true) : Rep G F' v d := by
  cases d with
  | non => cases r; exact .non
  | bl b => cases r; exact .bl b
  | int i => cases r; exact .int i
  | str x => cases r; exact .str x
  | adr a => cases h
  | lst xs => cases h
  | tup xs => cases h
  | ins k xs => cases h
  | scr xs => cases h
  | dct b ks xs => cases h
  | exc k x => cases h
theorem flatDs_any {G : Gx} {F F' : Hp} : ∀ {vs : List V} {ds : List D}, Reps G F vs ds → ds.all flatD = true → Reps G F' vs ds
  | _, _, .nil, _ => .nil
  | _, _, .cons h r, e => by
    rw [List.all_cons, Bool.and_eq_true] at e
    exact .cons (flatD_any h e.1) (flatDs_any r e.2)
theorem flatD_ref {G : Gx} {F : Hp} {a : Addr} {d : D} (r : Rep G F (.ref a) d) (h : flatD d = true) : False := by
  cases r <;> cases h
theorem lend_w {i : Nat} {s : SE} {σ : L2.St} {H : Hp} {Q : VK} (h : vt c (sLend i s) σ H Q) : ∃ F0 H0 B, vt ⟨c.G, F0, H0, B⟩ s σ H Q := by
  obtain ⟨F, ρ, I, d, ρ', e, q⟩ := h
  unfold sLend at e
  split at e
  · rename_i xs hx
    split at e
    · rename_i ht
      split at e
      · rename_i d' ρ1 e1
        split at e
        · rename_i hf
          cases e
          obtain ⟨p, us, g1, g2, J⟩ := I.lend hx
          refine ⟨_, _, _, _, _, J, d, ρ1, e1, fun v H' F' x J' r => ?_⟩
          have g := Keep.unlend g1 J'
          refine q v H' _ g.f (keep_lift I g) ?_
          cases d with
          | non => exact flatD_any r hf
          | bl b => exact flatD_any r hf
          | int b => exact flatD_any r hf
          | str b => exact flatD_any r hf
          | adr a => cases hf
          | scr _ => cases hf
          | tup _ => cases hf
          | ins _ _ => cases hf
          | dct _ _ _ => cases hf
          | exc _ _ => cases hf
          | lst ds =>
            have hf : ds.all flatD = true := hf
            obtain ⟨a, vs, ev, h1, rs⟩ : ∃ a vs, v = V.ref a ∧ F' a = some (.lst vs) ∧ Reps c.G F' vs ds := by
              cases r with
              | lst h1 rs => exact ⟨_, _, rfl, h1, rs⟩
            subst ev
            have hp : F' p = some (.lst us) := x p _ upd_same
            have n : a ≠ p := fun z => by
              subst z
              rw [hp] at h1
              cases h1
              cases g2 with
              | nil => cases ht
              | cons r1 r2 =>
                cases rs with
                | cons q1 q2 =>
                  rw [List.all_cons, Bool.and_eq_true] at hf
                  unfold tupHd at ht
                  split at ht
                  · rename_i ez
                    cases ez
                    cases r1
                    exact flatD_ref q1 hf.1
                  · cases ht
            exact .lst (by show (if a = p then none else F' a) = _; rw [if_neg n]; exact h1) (flatDs_any rs hf)
        · cases e
      · cases e
    · cases e
  · cases e
theorem lendB_w {i : Nat} {s : SB} {σ : L2.St} {H : Hp} {Q : Bool → Hp → Prop} (h : vb c (sLendB i s) σ H Q) : ∃ F0 H0 B, vb ⟨c.G, F0, H0, B⟩ s σ H Q := by
  obtain ⟨F, ρ, I, d, ρ', e, q⟩ := h
  unfold sLendB at e
  split at e
  · rename_i xs hx
    split at e
    · rename_i d' ρ1 e1
      cases e
      obtain ⟨p, us, g1, g2, J⟩ := I.lend hx
      refine ⟨_, _, _, _, _, J, d, ρ1, e1, fun H' F' x J' => ?_⟩
      have g := Keep.unlend g1 J'
      exact q H' _ g.f (keep_lift I g)
    · cases e
  · cases e
theorem ve_lend {e : Expr} {s : SE} (i : Nat) (h : ∀ F0 H0 B, PE X e (vt ⟨c.G, F0, H0, B⟩ s)) : PE X e (vt c (sLend i s)) := pe_of (pe_X h) fun _ _ _ q => lend_w q
theorem vt_lend {e : Expr} {s : SB} (i : Nat) (h : ∀ F0 H0 B, PT X e (vb ⟨c.G, F0, H0, B⟩ s)) : PT X e (vb c (sLendB i s)) :=
  ⟨fun pins sh σ H Q I q => by
    obtain ⟨F0, H0, B, q⟩ := lendB_w q
    exact (h F0 H0 B).run pins sh σ H Q I q⟩
theorem vs_setLcL {j i : Nat} {y : Str} {py : Pos} {elt tg iter : Expr} {ifs : List Expr} {scope : Scope} {own : List (Str × Nat)} {pos spos : Pos} {it : SI} {tt : SB} {e : SE} (t : Tg) (hc : X.calm = true) (hN : X.N.Nodup)
    (hi : ∀ F0 H0 B, PI X tg iter (vi ⟨c.G, F0, H0, B⟩ it)) (ok : BlkOk X.N X.env.scope scope own) (hix : own.map (·.2) = t.ix)
    (hg : ∀ (s : Shared) (H : Hp) (C : Addr) (cl : List (Str × Addr)) (fp : List Addr), PG (X.blk s H scope (compEnvC scope cl C X.env) fp) tg (gT X.K t))
    (ht : ∀ (s : Shared) (H : Hp) (C : Addr) (cl : List (Str × Addr)) (fp : List Addr) (F0 H0 : Hp) (B : List Addr), PTs (X.blk s H scope (compEnvC scope cl C X.env) fp) ifs (vb ⟨c.G, F0, H0, B⟩ tt))
    (he : ∀ (s : Shared) (H : Hp) (C : Addr) (cl : List (Str × Addr)) (fp : List Addr) (F0 H0 : Hp) (B : List Addr), PE (X.blk s H scope (compEnvC scope cl C X.env) fp) elt (vt ⟨c.G, F0, H0, B⟩ e))
    (hsw : swapsWith (.ListComp elt [⟨tg, iter, ifs, 0⟩] scope pos) (some (.Name y py)) spos.line X.env = pure true)
    (hy : X.N[j]? = some y := by rfl) (hyl : X.env.scope.names.lookup y = some .local := by rfl)
    (hs : ∀ x, foldedSetIterable iter X.env x = pure x := by intro _; rfl) : PS X (.Assign [.Name y py] (.ListComp elt [⟨tg, iter, ifs, 0⟩] scope pos) spos) (vs c (kSet j (sLend i (sComp it t tt e)))) :=
  ps_of (ps_setLc (wi := fun σ H R => ∃ F0 H0 B, vi ⟨c.G, F0, H0, B⟩ it σ H R) hc hN hy hyl hsw ⟨fun pins s σ H R I ⟨F0, H0, B, q⟩ => (hi F0 H0 B).run pins s σ H R I q⟩ ok hg (fun s H C cl fp => pts_X (ht s H C cl fp)) (fun s H C cl fp => pe_X (he s H C cl fp)) hs) fun σ H E q => by
    obtain ⟨F, ρ, I, fl, ρ', e1, q⟩ := q
    unfold kSet at e1
    split at e1
    · rename_i d ρ1 e2
      cases e1
      rw [hix]
      obtain ⟨F0, H0, B, q2⟩ := lend_w (c := c) (i := i) (s := sComp it t tt e) (σ := σ) (H := H) (Q := fun v H1 => E.nx (σ.set j (some v)) H1) ⟨F, ρ, I, d, ρ1, e2, fun v H1 F1 x1 I1 r1 => q _ _ _ x1 (I1.put j r1)⟩
      have := comp_w (c := ⟨c.G, F0, H0, B⟩) (K := X.K) σ H _ q2
      exact ⟨F0, H0, B, this⟩
    · cases e1
theorem ve_callF {f : Str} {e : Expr} {es : List Expr} {a : SA} {k n : Nat} {m : MirM} {p cpos : Pos} (C : CalM X.prog X.w c.G X.mg X.base f k n m) (hK : X.K = c.G.K) (hr : Room k X.A) (ha : PA X (e :: es) (va c a)) (hg : Gl X f := by rfl) (hdb : (f == ("__debug__" : Str)) = false := by decide)
    (he : starEach (e :: es) X.env = (false, eval e X.env) :: starEach es X.env := by rfl) (hpl : (backTo cpos (starEach es X.env)).any (·.1) = false := by rfl) :
    PE X (.Call (.Name f p) (e :: es) [] cpos) (vt c (sCallF n m a)) := by
  obtain ⟨fa, fd, ps, hm, hk, hb, hF⟩ := C.ex
  rw [← hK] at hk hb hF
  refine pe_of (pe_call hF hr hg hm hk hb .nil pass0 ha hdb he hpl) fun σ H Q ⟨F, ρ, I, d, ρ', e, q⟩ => ?_
  unfold sCallF at e
  split at e
  · rename_i xs ρ1 e1
    split at e
    · rename_i hn
      split at e
      · rename_i ys e2
        cases e
        refine ⟨F, ρ, I, xs, ρ', e1, fun us H1 F1 x1 I1 r1 => ?_⟩
        show spM c.G n m (us ++ []) H1 _ E0
        rw [List.append_nil]
        refine ⟨F1, xs, I1.fh, I1.tb, r1, hn, ys, e2, fun p ws H2 F2 k2 h1 h2 h3 r2 => ?_⟩
        have np : p ∉ mutA σ ρ' := fun hm => by
          obtain ⟨j, zs, k1, k2⟩ := mem_mutA.mp hm
          rcases k1 with k1 | k1
          · exact I1.no_slot h1 j _ p k1 rfl k2 rfl
          · exact I1.no_slot h1 j _ p k1 rfl k2 rfl
        exact q _ H2 (upd F2 p (.lst ws)) ((x1.trans k2.f).trans (Ext.upd h2)) ((keep_lift I1 k2).seal h3 h2 (I1.no_H0 h1) np) (.lst upd_same (r2.ext (Ext.upd h2)))
      · cases e
    · cases e
  · cases e
theorem vs_forO {tg test : Expr} {x : Str} {body : List Stmt} {i : Nat} {t : Tg} {tt : SB} {p0 pos ipos : Pos} (hp : PassesOwn (model X.prog X.w) X.A X.env X.xe) (hc : X.calm = true) (hi : PE X (.Name x p0) (tVar i)) (hg : PG X tg (gT X.K t)) (hb : PT X test (vb c tt))
    (hs : ∀ z, foldedSetIterable (.Name x p0) X.env z = pure z := by intro _; rfl) : PS X (.For tg (.Name x p0) [.If test body [] ipos] [] pos) (vs c (kForO i t tt)) :=
  ps_of (ps_for hp hc (pi_list hi) hg (pss_one (ps_if hb pss_never pss_nil)) hs) fun σ H E ⟨F, ρ, I, fl, ρ', e, q⟩ => by
    unfold kForO at e
    split at e
    · rename_i xs e0
      obtain ⟨p, us, g1, g2, g3, g4⟩ := I.own e0
      refine ⟨_, g1, p, rfl, ⟨_, .of g2⟩, ?_⟩
      refine ⟨fun j m σ H => ∃ F2 ρ2, Ok c F2 H σ ρ2 ∧ Ext F F2 ∧ σ[i]? = some (some (V.ref p)) ∧ kLoopO i t tt m j ρ2 = some (fl, ρ'), ⟨_, F, ρ, I, Ext.rfl', g1, e⟩, ?_⟩
      rintro j m σ2 H2 ⟨F2, ρ2, I2, x2, s2, e2⟩
      cases m with
      | zero => cases e2
      | succ n =>
        unfold kLoopO at e2
        split at e2
        · rename_i ys hy
          obtain ⟨p', vs, k1, k2, k3, k4⟩ := I2.own hy
          rw [s2] at k1; cases k1
          have sq : SqL X.K H2 p vs := .of k2
          split at e2
          · rename_i hj
            cases e2
            refine .inl ⟨⟨vs, sq, ?_⟩, q σ2 H2 F2 x2 I2⟩
            rw [k4.length]
            exact List.getElem?_eq_none_iff.mp hj
          · rename_i d hj
            obtain ⟨u, w1, w2⟩ := k4.get hj
            split at e2
            · cases e2
            · rename_i hni
              split at e2
              · rename_i ρ3 e3
                split at e2
                · rename_i ρ5 e5
                  refine .inr ⟨⟨vs, u, sq, w1⟩, fun σ' H' => ∃ F2 ρ2, Ok c F2 H' σ' ρ2 ∧ Ext F F2 ∧ σ'[i]? = some (some (V.ref p)) ∧ kLoopO i t tt n (j + 1) ρ2 = some (fl, ρ'), fun σ' H' z => ⟨n, Nat.lt_succ_self n, z⟩, fun y H' yy => ?_⟩
                  obtain ⟨y1, y2⟩ := yy
                  subst y1
                  have := y2 vs sq
                  rw [w1] at this; cases this
                  refine tgt_w I2 w2 e3 fun σ4 I4 w4 => ?_
                  have s4 : σ4[i]? = some (some (V.ref p)) := by
                    have := congrArg (fun l => l[i]?) (w4 t.ix fun _ z => z)
                    simp only [wipe_get, if_neg hni] at this
                    rw [this]; exact s2
                  exact ⟨F2, ρ3, I4, false, ρ5, e5, fun H6 F6 x6 I6 => iteF ⟨F6, ρ5, I6, x2.trans x6, s4, e2⟩⟩
                · cases e2
              · cases e2
        · cases e2
    · cases e
end
end VS

set_option Elab.async false
set_option linter.all false
set_option maxRecDepth 100000
set_option maxHeartbeats 4000000
namespace VS
open PySem PySem.Spec PyProof.Rows L2
open PySem.W (kxs_mw KxsFacts)
/-! an own exception whose __init__ says super().__init__(value); self.value = value -/
abbrev supBody (p0 p1 p2 p3 p4 p5 q1 q2 q3 q4 : Pos) : List Stmt :=
  [.Expr (.Call (.Attribute (.Call (.Name "super" p0) [] [] p1) "__init__" p2) [.Name "value" p3] [] p4) p5, .Assign [.Attribute (.Name "self" q1) "value" q2] (.Name "value" q3) q4]
/-- what the written part says of such a class: C, its __init__ at f -/
structure SupC (P : Program) (K : PySem.W.Frag) (C f : Addr) (fd : FuncData) : Prop where
  fn : ∃ (oc : Value) (od : Option Addr) (osl : Array (Option Value)), K.lookup f = some ⟨oc, od, .func fd, osl⟩
  sh : ∃ (qual : Str) (params : Arguments) (p0 p1 p2 p3 p4 p5 q1 q2 q3 q4 : Pos) (scope : Scope) (dV kV doc pm ct : Value) (an : Option Addr) (cda cc : Addr) (ar : Arg),
    fd = PySem.W.fnX "__init__" qual params (supBody p0 p1 p2 p3 p4 p5 q1 q2 q3 q4) scope [("__class__", cc)] dV kV doc pm an (.ref cda) ct ∧ PySem.W.codeIn K (.ref cda) qual = true ∧
    (params.posonlyargs ++ params.args).head? = some ar ∧ ar.arg = "self" ∧ (p2.endLine == p4.line) = true ∧
    scope.names.lookup ("self" : Str) = some .local ∧ scope.names.lookup ("value" : Str) = some .local ∧ scope.names.lookup ("super" : Str) = some .globalImplicit ∧ scope.names.lookup ("__class__" : Str) = some .free ∧
    (∀ x ∈ scope.names, x.2 ≠ .cell) ∧ scope.isCoroutine = false ∧ scope.isGenerator = false ∧ scope.kind = .function ∧
    (∃ (ccl : Value) (cdd : Option Addr) (vs : Array Value) (ccs : Array (Option Value)) (file : Str) (tf : Tok), K.lookup cda = some ⟨ccl, cdd, .fields vs, ccs⟩ ∧ vs[2]? = some (.str file tf) ∧ ((P.main.file : Str) == file) = true) ∧
    (∃ (cl : Value) (cld : Option Addr) (csl : Array (Option Value)), K.lookup cc = some ⟨cl, cld, .cell (some (.ref C)), csl⟩)
  top : (P.main.scope.names.lookup ("super" : Str)).isSome = false
  oex : OexC K C
  sup : PySem.W.ks_superIn K C C "__init__" = some (some (.builtin "ValueError.__init__"))
  opq : PySem.W.nsIn K cStatics "thirdparty.any" = some none
  va : PySem.W.findIn K (.ref C) "value" = some none
  ini : PySem.W.findIn K (.ref C) "__init__" = some (some (.ref f))
  tyf : PySem.W.typeIn K (.ref f) = some (.type "function")
  mro : PySem.W.mroIn K C (.ref C) = some true
  sub : PySem.W.subIn K (.ref C) (.type "ValueError") = some true
section
variable {P : Program} {w : World} {K : PySem.W.Frag} {mg : Str → Option Value} {base : Heap} {A : Around} {R : Result → Shared → Prop} {hp : Heap} {g : Array GenState} {d : Drawn} {t : Nat} {os : OsState}
/-- __init__ itself, called with the object and the value -/
theorem sup_init {C f e t0 : Addr} {fd : FuncData} {v : Value} {args : Args} (T : SupC P K C f fd) (M : Mod K mg base) (bk : ∀ b o, base.get? b = some o → hp.get? b = some o) (be : base.get? e = none) (ms : mg "super" = none) (hroom : A.depth < recursionLimit)
    (he : hp.get? e = some ({ cls := .ref C, data := .fields #[.ref t0, .none, .none, .none, .bool false, .none] } : Obj)) (hb : BindsTo ⟨hp, g, d, t, os⟩ fd args [("self", .ref e), ("value", v)])
    (hq : ∀ h' tk dx (t1 : Addr), (∀ b o, b ≠ e → hp.get? b = some o → h'.get? b = some o) → hp.objs.size ≤ dx → h'.get? e = some ({ cls := .ref C, dict := some dx, data := .fields #[.ref t1, .none, .none, .none, .bool false, .none] } : Obj) →
      h'.Ns1 dx (fun y => if y = ("value" : Str) then some v else none) → R (.ok (.ret .none)) ⟨h', g, d, tk, os⟩) : codeAny (model P w) A (.call (.ref f) args) R ⟨hp, g, d, t, os⟩ := by
  obtain ⟨oc, od, osl, lk⟩ := T.fn
  obtain ⟨qual, params, p0, p1, p2, p3, p4, p5, q1, q2, q3, q4, scope, dV, kV, doc, pm, ct, an, cda, cc, ar, rfl, hcd, hpar, har, h24, ls, lv, lsu, lcl, ncell, hco, hgen, hk, ⟨ccl, cdd, vs, ccs, file, tf, lcode, hvs, hfile⟩, cl, cld, csl, lcell⟩ := T.sh
  obtain ⟨nm, q, N, bs, bm, sn, sub, ab, col, dd, k0, k1, k2, k3, k5, hC, hbm⟩ := T.oex.cls
  obtain ⟨mb, nb, hbv⟩ := M.blt
  have X : K.In hp := M.kin.keeps bk
  have hcl : PySem.W.clsIn K C = some { name := nm, bases := bs, mro := .ref C :: bm, ns := N, qualname := q, hasDict := true, slotNames := sn, subclasses := sub, abstract := ab, collection := col, hasDel := false } := by unfold PySem.W.clsIn; rw [hC] <;> rfl
  refine ks_codeAny_call_defAt (fd := PySem.W.fnX "__init__" qual params (supBody p0 p1 p2 p3 p4 p5 q1 q2 q3 q4) scope [("__class__", cc)] dV kV doc pm an (.ref cda) ct) (body := supBody p0 p1 p2 p3 p4 p5 q1 q2 q3 q4) hroom (X _ _ lk) rfl (M.nolimit.keeps bk) (PySem.W.codeRec_of X hcd) rfl hb ncell (fun x hx => ?_) (fun h₁ hns hk₁ => ?_) hco hgen hk
  · rcases List.mem_cons.mp hx with rfl | hx
    · exact ls
    · rw [List.mem_singleton.mp hx]; exact lv
  generalize hL : hp.objs.size = L at *
  have X1 : K.In h₁ := X.keeps hk₁
  have he1 := hk₁ _ _ he
  have hC1 := X1 _ _ hC
  have ns_self : (fun x : Str => List.lookup x ([("self", Value.ref e), ("value", v)] : List (Str × Value)).reverse) "self" = some (Value.ref e) := by rfl
  have ns_val : (fun x : Str => List.lookup x ([("self", Value.ref e), ("value", v)] : List (Str × Value)).reverse) "value" = some v := by rfl
  have hev : ∀ (env : Env) (pl : Sem Bool), pl = (do return (← importBound (.Call (.Name "super" p0) [] [] p1) env).getD true) → eval (.Call (.Attribute (.Call (.Name "super" p0) [] [] p1) "__init__" p2) [.Name "value" p3] [] p4) env = (do
      let ov ← attributeBase (.Call (.Name "super" p0) [] [] p1) "__init__" env (eval (.Call (.Name "super" p0) [] [] p1) env)
      standAt p2.atName
      let (f, first) ← holding [ov] (getMethod ov "__init__" pl)
      callWith p4 f first (backTo p4 (starEach [.Name "value" p3] env)) []) := fun env pl hpl => by
    subst hpl
    show (do
      let ov ← attributeBase (.Call (.Name "super" p0) [] [] p1) "__init__" env (eval (.Call (.Name "super" p0) [] [] p1) env)
      standAt p2.atName
      methodCall (.Call (.Name "super" p0) [] [] p1) "__init__" p2 p4 env ov 1 (backTo p4 (starEach [.Name "value" p3] env)) []) = _
    unfold methodCall methodCallPos
    simp only [h24, Bool.or_true, if_true, pure_bind]
    rfl
  have hint : interactive (callEnv (PySem.W.fnX "__init__" qual params (supBody p0 p1 p2 p3 p4 p5 q1 q2 q3 q4) scope [("__class__", cc)] dV kV doc pm an (.ref cda) ct) L f) = false := by
    show (scope.kind == ScopeKind.module && _) = false
    rw [hk]
    rfl
  refine ks_wpAt_execs_cons (ks_wpAt_Expr_any (hi := hint) (ks_wpAt_MethodCall (he := hev _ _ rfl) (ks_wpAt_super_base (env := callEnv (PySem.W.fnX "__init__" qual params (supBody p0 p1 p2 p3 p4 p5 q1 q2 q3 q4) scope [("__class__", cc)] dV kV doc pm an (.ref cda) ct) L f) lsu lcl (by rfl) rfl (X1 _ _ lk) rfl hpar rfl (X1 _ _ lcode) rfl hvs hfile T.top ?_)))
  have bk1 : ∀ b o, base.get? b = some o → h₁.get? b = some o := fun b o z => hk₁ b o (bk b o z)
  refine PySem.W.ks_loadName_global hk lsu (Calls.loadGlobal_builtin (M.glob.keeps bk1) ms (nb.keeps bk1) ((hbv _ (by decide)).trans Boot.«super») ⟨rfl, ?_⟩)
  refine wpAny_loadName_free hk lcl rfl ⟨_, X1 _ _ lcell, rfl⟩ ?_
  rw [har]
  refine wpAny_loadName_local hk ls hns ns_self ?_
  refine ks_wpAny_isType_cls hC1 rfl ⟨rfl, ?_⟩
  refine ks_wpAny_call_super hC1 rfl he1 rfl (fun c z => by cases z) (PySem.W.looks_mroIn X1 T.mro) (fun h₂ e2 k2 => ?_)
  have X2 : K.In h₂ := X1.keeps k2
  have he2 := k2 _ _ he1
  have I2 : PySem.W.InstAt h₂ e ({ cls := .ref C, data := .fields #[.ref t0, .none, .none, .none, .bool false, .none] } : Obj) C none := ⟨he2, rfl, rfl, trivial⟩
  have hxC : e ≠ C := PySem.W.ks_ne X2 I2 hcl
  have hI : PySem.W.Looks (model P w) h₂ (isInstance (.ref e) (.type "ValueError")) true := I2.type.andThen (PySem.W.looks_subIn X2 T.sub)
  have hmr : PySem.W.Looks (model P w) h₂ (mroOf (.ref C)) (.ref C :: bm) := (PySem.W.looks_clsIn X2 hcl).andThen .now
  have hsup : PySem.W.alongIn K "__init__" (((Value.ref C :: bm).dropWhile (· != .ref C)).drop 1) = some (some (.builtin "ValueError.__init__")) := by
    have z := T.sup
    unfold PySem.W.ks_superIn at z
    rw [hcl] at z
    exact z
  refine PySem.W.kxs_getMethod PySem.W.kxs_ValueError e2 (PySem.W.looks_opaque X2 T.opq) hmr rfl X2 hsup hI hxC (by decide) ?_
  have hu : (h₂.push (kxs_mw "ValueError.__init__" e)).get? h₂.objs.size = some (kxs_mw "ValueError.__init__" e) := Heap.get?_push_at rfl rfl
  have k3 : ∀ b o, h₂.get? b = some o → (h₂.push (kxs_mw "ValueError.__init__" e)).get? b = some o := fun b o z => Heap.get?_push_of_some _ z
  generalize (h₂.push (kxs_mw "ValueError.__init__" e)) = h₃ at *
  have ns3 : h₃.Ns L (fun x : Str => List.lookup x ([("self", Value.ref e), ("value", v)] : List (Str × Value)).reverse) := by
    obtain ⟨o, es, ep, z1, z2⟩ := hns
    exact ⟨o, es, ep, k3 _ _ (k2 _ _ z1), z2⟩
  have he3 := k3 _ _ he2
  have hC3 := k3 _ _ (k2 _ _ hC1)
  refine PySem.W.kxs_callWith (i := "ValueError.__init__") (x := e) (by rfl) ?_
  refine Calls.evalArgs_plain (Calls.spliced_cons (wpAny_Name (wpAny_loadName_local hk lv ns3 ns_val (Calls.spliced_nil ⟨hu, ?_⟩))))
  refine wpAny_call (codeAny_of_tree ?_)
  show wpAny _ (A.deeper _).in1 (callAny (.ref h₂.objs.size) ⟨[v], []⟩) _ _ _
  simp only [callAny]
  refine wpAny_bind (wpAny_load hu ?_)
  simp only [kxs_mw, show (Value.type "method-wrapper" == Value.type "method" || Value.type "method-wrapper" == Value.type "builtin_function_or_method" || Value.type "method-wrapper" == Value.type "method-wrapper") = true by decide, if_true]
  refine PySem.W.KFB.if_so (by decide) ?_
  refine wpAny_bind (PySem.W.check_bound_init F.excBase_ValueError.toExcCallFacts hC3 he3 rfl ?_)
  refine wpAny_bind (wpAny_pure (wpAny_pure ?_))
  refine ⟨plainId_quiet F.excBase_ValueError.init.plain _, codeAny_builtin F.excBase_ValueError.initEntry ?_⟩
  refine PySem.W.exc_init_tree (cls := .ref C) (t0 := t0) (dv := none) (c2 := .none) (c3 := .none) (b4 := .bool false) he3 (by rw [sizeLine_eq]; show 1 ≤ _; decide) (fun h₄ k4 he4 ht4 => ?_)
  have hq' : PySem.wpAt (model P w) (A.deeper (callEnv (PySem.W.fnX "__init__" qual params (supBody p0 p1 p2 p3 p4 p5 q1 q2 q3 q4) scope [("__class__", cc)] dV kV doc pm an (.ref cda) ct) L f)) (Code.func (supBody p0 p1 p2 p3 p4 p5 q1 q2 q3 q4) (callEnv (PySem.W.fnX "__init__" qual params (supBody p0 p1 p2 p3 p4 p5 q1 q2 q3 q4) scope [("__class__", cc)] dV kV doc pm an (.ref cda) ct) L f))
      (execs [Stmt.Assign [.Attribute (.Name "self" q1) "value" q2] (.Name "value" q3) q4] (callEnv (PySem.W.fnX "__init__" qual params (supBody p0 p1 p2 p3 p4 p5 q1 q2 q3 q4) scope [("__class__", cc)] dV kV doc pm an (.ref cda) ct) L f))
      (fun f s' => R (.ok (.ret (match f with | .ret v => v | _ => .none))) s') (fun _ _ => False) ⟨h₄, g, d, t + 2 + 1, os⟩ := by
    have ns4 : h₄.Ns L (fun x : Str => List.lookup x ([("self", Value.ref e), ("value", v)] : List (Str × Value)).reverse) := by
      obtain ⟨o, es, ep, z1, z2⟩ := ns3
      refine ⟨o, es, ep, k4 _ _ (fun z => ?_) z1, z2⟩
      subst z
      exact absurd (Heap.lt_size he) (by rw [hL]; exact Nat.lt_irrefl _)
    have X4 : K.In h₄ := fun a o z => k4 a o (fun q => by
      subst q
      have y := M.kin _ _ z
      rw [be] at y
      cases y) (k3 _ _ (k2 _ _ (X1 _ _ z)))
    refine ks_wpAt_execs_cons (wpAt_of_wpAny (plainObj_wpAny_Assign_Attribute (wpAny_Name (wpAny_loadName_local hk lv ns4 ns_val (wpAny_Name (wpAny_loadName_local hk ls ns4 ns_self ?_)))))) 
    have hC4 := X4 _ _ hC
    refine PySem.W.set_plain X4 (ox := { cls := .ref C, dict := none, data := .fields #[.ref h₃.objs.size, .none, .none, .none, .bool false, .none] }) (od := none) ⟨he4, rfl, rfl, trivial⟩ T.oex.sa ?_
    refine PySem.HandSPX.exc_osa X4 he4 hcl (show PySem.HandSPX.refsVE (.ref C :: bm) = true from hbm) rfl T.va (fun h' tk' dx k5' dn dne hx hn => ?_)
    have ks : ∀ b o, b ≠ e → hp.get? b = some o → h'.get? b = some o := fun b o z y => k5' b o z (k4 b o z (k3 _ _ (k2 _ _ (hk₁ _ _ y))))
    have le : hp.objs.size ≤ dx := by
      obtain ⟨o, es, ep, z1, z2⟩ := ns4
      have y := Heap.lt_size z1
      rw [hL]
      exact Nat.le_of_lt (Nat.lt_of_lt_of_le y dn)
    exact wpAt_of_wpAny (wpAny_execs_nil (hq h' tk' dx _ ks (by rw [← hL]; exact le) hx hn))
  exact ks_wpAt_mono hq' (fun _ _ z => z) (fun _ _ z => z.elim)
end
end VS

set_option Elab.async false
set_option linter.all false
set_option maxRecDepth 100000
set_option maxHeartbeats 4000000
namespace VS
open PySem PySem.Spec PyProof.Rows L2
open PySem.HandSPX (refsVE_contains excO)
/-! such an exception made by the name of its value -/
section
variable {M : Model} {A : Around} {E : Value → Shared → Prop} {h : Heap} {g : Array GenState} {d : Drawn} {t : Nat} {os : OsState}
variable {nm q : Str} {C N : Addr} {bs bm : List Value} {hdct : Bool} {sn : List Str} {sub : List Value} {ab : Bool} {col : Option Bool} {dd : Option Addr} {k0 k1 k2 k3 k5 : Option Value}
theorem kw_check {kw : List (Str × Value)} {Q : Unit → Shared → Prop} (hbm : HandSPX.refsVE bm = true) 
    (hC : h.get? C = some (excClassObj nm q C N bs bm hdct sn sub ab col dd k0 k1 k2 k3 k5 "ValueError.__new__")) (hq : Q () ⟨h, g, d, t, os⟩) :
    wpAny M A (checkBuiltinCall "ValueError.__new__" ⟨[.ref C], kw⟩) Q E ⟨h, g, d, t, os⟩ := by
  have F := F.excBase_ValueError
  have hcont : (Value.ref C :: bm).contains (.type "ValueError") = true := by rw [List.contains_cons, refsVE_contains _ bm hbm, F.hasB, Bool.or_true]
  have hstar := F.noStar
  simp only [checkBuiltinCall, F.newKind, F.newSplit, F.newRow]
  repeat (first | refine wpAny_loadPart_at hC ?_ | (refine wpAny_isSubtype_exc hC ?_; rw [hcont]) | refine wpAny_staticBase_exc hC ?_ | refine wpAny_madeBy_exc hC ?_ | simp only [bne_self_eq_false, Bool.false_eq_true, if_false] | wp_step)
  exact hq
end
end VS
namespace PySem
namespace VSX
open PySem.W PySem.Calls PyProof.Rows
open PySem.HandSPX (refsVE_contains excO)
section
variable {prog : Program} {w : World} {A : Around} {E : Value → Shared → Prop} {R : Result → Shared → Prop} {h : Heap} {g : Array GenState} {d : Drawn} {t : Nat} {os : OsState}
variable {nm q : Str} {C N : Addr} {bs bm : List Value} {hdct : Bool} {sn : List Str} {sub : List Value} {ab : Bool} {col : Option Bool} {dd : Option Addr} {k0 k1 k2 k3 k5 : Option Value}
theorem kw_new {kw : List (Str × Value)} (hbm : HandSPX.refsVE bm = true) (hC : h.get? C = some (excClassObj nm q C N bs bm hdct sn sub ab col dd k0 k1 k2 k3 k5 "ValueError.__new__"))
    (hq : R (.ok (.ret (.ref (h.objs.size + 1)))) ⟨(h.push (W.kdv_tup [])).push (excO C h.objs.size), g, d, t, os⟩) :
    codeAny (model prog w) A (.builtin "ValueError.__new__" ⟨[.ref C], kw⟩) R ⟨h, g, d, t, os⟩ := by
  have F := F.excBase_ValueError
  have hends := F.ends
  have hcB : (Value.ref C :: bm).contains (.type "ValueError") = true := by rw [List.contains_cons, refsVE_contains _ bm hbm, F.hasB, Bool.or_true]
  have hcA : (Value.ref C :: bm).contains (.type "AttributeError") = false := by rw [List.contains_cons, refsVE_contains _ bm hbm, F.noAttr]; rfl
  have hcN : (Value.ref C :: bm).contains (.type "NameError") = false := by rw [List.contains_cons, refsVE_contains _ bm hbm, F.noName]; rfl
  refine codeAny_builtinAt F.entry ?_
  unfold Builtin.«BaseException.__new__»
  refine wpAt_bind ?_
  show wpAt _ _ _ (stack >>= _) _ _ _
  refine wpAt_bind (wpAt_stack fun p below => wpAt_of_wpAny ?_)
  wp_walk
  refine wpAt_of_wpAny ?_
  rw [F.owner]
  repeat (first | with_reducible refine wpAny_madeHere_exc F.canon hC ?_ | with_reducible refine wpAny_loadPart_at hC ?_ | (with_reducible refine wpAny_isSubtype_exc hC ?_; first | rw [hcB] | rw [hcA] | rw [hcN]) | wp_step)
  show R _ _
  rw [Heap.size_push]
  exact hq
theorem kw_type_call {kw : List (Str × Value)} {fI : Addr} {Q : Fin → Shared → Prop} (hbm : HandSPX.refsVE bm = true) (hC : h.get? C = some (excClassObj nm q C N bs bm hdct sn sub ab col dd k0 k1 k2 k3 k5 "ValueError.__new__"))
    (hi : W.Looks (model prog w) h (typeLookup (.ref C) "__init__") (some (.ref fI))) (hb : ∀ self, W.Looks (model prog w) h (bindSpecial (.ref fI) self) (.ref fI, [self])) (hkl : kw.length ≤ 1)
    (hq : codeAny (model prog w) A (.call (.ref fI) ⟨[.ref (h.objs.size + 1)], kw⟩)
      (fun r s' => match r with | .ok (.ret v) => v = .none ∧ Q (.done (.ret (.ref (h.objs.size + 1)))) s' | .ok _ => False | .error e => E e s')
      ⟨(h.push (W.kdv_tup [])).push (excO C h.objs.size), g, d, t, os⟩) :
    wpAny (model prog w) A (Builtin.«type.__call__» ⟨[.ref C], kw⟩) Q E ⟨h, g, d, t, os⟩ := by
  have F := F.excBase_ValueError
  repeat (first | with_reducible refine wpAny_loadPart_at hC ?_ | with_reducible refine wpAny_madeBy_exc hC ?_ | wp_step)
  refine codeAny_call_builtin_code (Code.quiet_builtin _ F.quiet) (VS.kw_check hbm hC ?_)
  refine kw_new hbm hC ?_
  show wpAny _ _ _ _ _ _
  have k : ∀ b o, h.get? b = some o → ((h.push (W.kdv_tup [])).push (excO C h.objs.size)).get? b = some o := fun b o e => Heap.get?_push_of_some _ (Heap.get?_push_of_some _ e)
  have hC₁ := k _ _ hC
  have hget : ((h.push (W.kdv_tup [])).push (excO C h.objs.size)).get? (h.objs.size + 1) = some (excO C h.objs.size) := by heap_get
  have hcC : (Value.ref C :: bm).contains (.ref C) = true := by simp
  have i1 := hi.keeps k
  have b1 := (hb (.ref (h.objs.size + 1))).keeps k
  unfold isInstance
  repeat (first | with_reducible refine wpAny_loadPart_at hget ?_ | (with_reducible refine wpAny_isSubtype_exc hC₁ ?_; rw [hcC]) | wp_step)
  show wpAny _ _ (typeLookup (.ref C) _) _ _ _
  refine i1.at ?_
  refine wpAny_holding (wpAny_bind (b1.at ?_))
  refine wpAny_bind (wpAny_call (codeAny_mono hq fun r s' z => ?_))
  rcases r with e | (v | _ | _ | _) <;> first | exact z | exact z.elim | skip
  obtain ⟨rfl, z⟩ := z
  first
    | exact wpAny_pure (wpAny_pure z)
    | (wp_walk; exact z)
theorem kw_check_type {M : Model} {E : Value → Shared → Prop} {kw : List (Str × Value)} {Q : Unit → Shared → Prop} (hC : h.get? C = some (excClassObj nm q C N bs bm hdct sn sub ab col dd k0 k1 k2 k3 k5 "ValueError.__new__"))
    (hq : Q () ⟨h, g, d, t, os⟩) : wpAny M A (checkBuiltinCall "type.__call__" ⟨[.ref C], kw⟩) Q E ⟨h, g, d, t, os⟩ := by
  have f3 := tc_sub
  have hT : (⟨h, g, d, t, os⟩ : Shared).TypeIs (.ref C) "type" := ⟨_, hC, rfl⟩
  simp only [checkBuiltinCall, tc_kind, tc_split]
  repeat (any_goals (first | assumption | with_reducible refine wpAny_loadPart_at hC ?_ | with_reducible refine wpAny_onRaise ?_ | with_reducible refine wpAny_map ?_ | wp_step))
theorem kw_call {kw : List (Str × Value)} {fI : Addr} (hbm : HandSPX.refsVE bm = true) (hC : h.get? C = some (excClassObj nm q C N bs bm hdct sn sub ab col dd k0 k1 k2 k3 k5 "ValueError.__new__"))
    (hi : W.Looks (model prog w) h (typeLookup (.ref C) "__init__") (some (.ref fI))) (hb : ∀ self, W.Looks (model prog w) h (bindSpecial (.ref fI) self) (.ref fI, [self])) (hkl : kw.length ≤ 1)
    (hq : codeAny (model prog w) (A.under (.builtin "type.__call__" ⟨[.ref C], kw⟩)) (.call (.ref fI) ⟨[.ref (h.objs.size + 1)], kw⟩) (W.InitBack (h.objs.size + 1) R)
      ⟨(h.push (W.kdv_tup [])).push (excO C h.objs.size), g, d, t, os⟩) :
    codeAny (model prog w) A (.call (.ref C) ⟨[], kw⟩) R ⟨h, g, d, t, os⟩ := by
  have f1 := tc_lookup
  have f2 := tc_bind (.ref C)
  have hTy : (⟨h, g, d, t, os⟩ : Shared).TypeIs (.ref C) "type" := ⟨_, hC, rfl⟩
  refine codeAny_of_tree ?_
  show wpAny _ _ (callAny (.ref C) _) _ _ _
  repeat (any_goals (first | assumption | with_reducible refine wpAny_loadPart_at hC ?_ | wp_step))
  refine ⟨rfl, ?_⟩
  refine codeAny_call_builtin_at (Code.quiet_builtin _ (by decide +kernel)) entry_typeCall (kw_check_type hC (kw_type_call hbm hC hi hb hkl ?_))
  refine codeAny_mono hq fun r s' z => ?_
  rcases r with e | (v | _ | _ | _) <;> exact z
end
end VSX
end PySem

set_option Elab.async false
set_option linter.all false
set_option maxRecDepth 100000
set_option maxHeartbeats 4000000
namespace VS
open PySem PySem.Spec PyProof.Rows L2
/-! X(value=e).value -/
theorem ve_exVal {c : Ctx} {X : Cx} {x : Str} {C f : Addr} {fd : FuncData} {e : Expr} {se : SE} {p pos kpos apos : Pos} {k : Nat}
    (T : SupC X.prog X.K C f fd) (T2 : XfC X.K C) (hb : ∀ (s : Shared) (a v : Value), X.K.In s.heap → BindsTo s fd ⟨[a], [("value", v)]⟩ [("self", a), ("value", v)])
    (kp : PySem.W.keepIn X.K (.ref C) = true) (hr : Room (k + 1) X.A) (hg : Gl X x) (hm : X.mg x = some (.ref C)) (ms : X.mg "super" = none) (he : PE X e (vt c se))
    (hdb : (x == ("__debug__" : Str)) = false := by decide) : PE X (.Attribute (.Call (.Name x p) [] [⟨some "value", e, kpos⟩] pos) "value" apos) (vt c se) := by
  refine ⟨fun pins s σ H Q I h => ?_⟩
  obtain ⟨F0, ρ, I0, d0, ρ', es, q⟩ := h
  obtain ⟨nm, qn, N, bs, bm, sn, sub, ab, col, dd, k0, k1, k2, k3, k5, hC, hbm⟩ := T.oex.cls
  refine attr_of (by rfl) ?_
  refine wpAny_Call_Name_kw (ld_glob I hg hm ?_ hdb)
  refine PySem.W.callWith_KW0 (h₀ := X.base) I.ok.mod.kin kp (by rfl) ?_ (by rfl)
  refine thn ((pk_cons he pk_nil).run pos pins s σ H (fun zs H2 => ∃ v, zs = [v] ∧ Q v H2) I ⟨F0, ρ, I0, d0, ρ', es, fun v H1 F1 x1 I1 r1 => ⟨v, rfl, q v H1 F1 x1 I1 r1⟩⟩) fun ws s2 hh => ?_
  obtain ⟨zs, H2, I2, rz, v, ez, qv⟩ := hh
  subst ez
  cases rz with
  | @cons _ u0 _ ur ra rn =>
    cases rn
    refine ⟨I2.kIn, ?_⟩
    show wpAny _ _ (call (.ref C) [] [("value", u0)]) _ _ _
    have bk := I2.bk
    have KX := I2.kIn
    have fresh : ∀ n, s2.heap.objs.size ≤ n → X.base.get? n = none := fun n hn => by
      cases z : X.base.get? n with
      | none => rfl
      | some o => exact absurd (Heap.lt_size (bk _ _ z)) (Nat.not_lt.mpr hn)
    have lift := fun (h' : Heap) (t' : Nat) (k' : ∀ b u, s2.heap.get? b = some u → h'.get? b = some u) => Inv.kept (t' := t') I2 k'
    obtain ⟨hp, g, dr, tk, os⟩ := s2
    have k1 : ∀ b o, hp.get? b = some o → ((hp.push (PySem.W.kdv_tup [])).push (PySem.HandSPX.excO C hp.objs.size)).get? b = some o := fun b o z => Heap.get?_push_of_some _ (Heap.get?_push_of_some _ z)
    have hget : ((hp.push (PySem.W.kdv_tup [])).push (PySem.HandSPX.excO C hp.objs.size)).get? (hp.objs.size + 1) = some (PySem.HandSPX.excO C hp.objs.size) := by heap_get
    have hroom : (X.A.under (.builtin "type.__call__" ⟨[.ref C], [("value", u0)]⟩)).depth < recursionLimit := (hr.make C [] [("value", u0)]).depth
    refine wpAny_call (PySem.VSX.kw_call hbm (KX _ _ hC) (PySem.W.looks_findIn KX T.ini) (fun self => PySem.W.bind_fn KX self T.tyf) (Nat.le_refl 1) (sup_init T I.ok.mod (fun b o z => k1 b o (bk b o z)) (fresh _ (Nat.le_succ _)) ms hroom hget (hb _ _ _ (KX.keeps k1)) (fun h' tk' dx t1 ks le hx hn => ?_)))
    refine ⟨rfl, ?_⟩
    have kk : ∀ b u, hp.get? b = some u → h'.get? b = some u := fun b u z => ks b u (fun y => by
      subst y
      exact absurd (Heap.lt_size z) (Nat.not_lt.mpr (Nat.le_succ _))) (k1 b u z)
    obtain ⟨od, ho, hl⟩ := lookIn_ns hn
    have J : PySem.W.InstAt h' (hp.objs.size + 1) ({ cls := .ref C, dict := some dx, data := .fields #[.ref t1, .none, .none, .none, .bool false, .none] } : Obj) C (some od) := ⟨hx, rfl, rfl, ho⟩
    exact PySem.HandSPX.exc_get (KX.keeps kk) J T2.ga T2.gg T2.exC (PySem.W.findObj_own T2.hdC T.va rfl (by rw [hl]; simp)) (handed_of ra) ⟨v, H2, lift h' (tk' + 1) kk, ra, qv⟩
end VS

set_option Elab.async false
set_option linter.all false
set_option maxRecDepth 100000
set_option maxHeartbeats 4000000
namespace VS
open PySem PySem.Spec PyProof.Rows L2
/-! calls by the parameters' names -/
/-- items in another order -/
def pmL {α : Type} (is : List Nat) (l : List α) : List α := is.filterMap (l[·]?)
theorem vals_get : ∀ {vs : List V} {us : List Value}, Vals vs us → ∀ i : Nat, (vs[i]? = none ∧ us[i]? = none) ∨ ∃ v u, vs[i]? = some v ∧ us[i]? = some u ∧ RelV v u
  | _, _, .nil, i => .inl (by simp)
  | _, _, .cons h r, 0 => .inr ⟨_, _, rfl, rfl, h⟩
  | _, _, .cons h r, i + 1 => by simpa using vals_get r i
theorem vals_pm {vs : List V} {us : List Value} (h : Vals vs us) : ∀ is : List Nat, Vals (pmL is vs) (pmL is us)
  | [] => .nil
  | i :: is => by
    have ih := vals_pm h is
    unfold pmL at ih ⊢
    rw [List.filterMap_cons, List.filterMap_cons]
    rcases vals_get h i with ⟨e1, e2⟩ | ⟨v, u, e1, e2, r⟩
    · rw [e1, e2]; exact ih
    · rw [e1, e2]; exact .cons r ih
theorem reps_get {G : Gx} {F : Hp} : ∀ {vs : List V} {ds : List D}, Reps G F vs ds → ∀ i : Nat, (vs[i]? = none ∧ ds[i]? = none) ∨ ∃ v d, vs[i]? = some v ∧ ds[i]? = some d ∧ Rep G F v d
  | _, _, .nil, i => .inl (by simp)
  | _, _, .cons h r, 0 => .inr ⟨_, _, rfl, rfl, h⟩
  | _, _, .cons h r, i + 1 => by simpa using reps_get r i
theorem reps_pm {G : Gx} {F : Hp} {vs : List V} {ds : List D} (h : Reps G F vs ds) : ∀ is : List Nat, Reps G F (pmL is vs) (pmL is ds)
  | [] => .nil
  | i :: is => by
    have ih := reps_pm h is
    unfold pmL at ih ⊢
    rw [List.filterMap_cons, List.filterMap_cons]
    rcases reps_get h i with ⟨e1, e2⟩ | ⟨v, d, e1, e2, r⟩
    · rw [e1, e2]; exact ih
    · rw [e1, e2]; exact .cons r ih
def aPm (is : List Nat) (a : SA) : SA := fun ρ => match a ρ with
  | some (xs, ρ1) => some (pmL is xs, ρ1)
  | none => none
def tP (is : List Nat) (t : TA) : TA := fun σ H Q => t σ H fun zs H2 => Q (pmL is zs) H2
theorem va_pm {c : Ctx} {is : List Nat} {sa : SA} {σ : L2.St} {H : Hp} {Q : List V → Hp → Prop} (h : va c (aPm is sa) σ H Q) : tP is (va c sa) σ H Q := by
  obtain ⟨F, ρ, I, xs, ρ', e, q⟩ := h
  unfold aPm at e
  split at e
  · rename_i ys ρ1 e1
    cases e
    exact ⟨F, ρ, I, ys, ρ', e1, fun vs H' F' x I' r => q _ H' F' x I' (reps_pm r is)⟩
  · cases e
section
variable {c : Ctx} {X : Cx} {x cn m0 : Str} {p pos apos kpos : Pos} {e : Expr} {kws : List Keyword} {k n t nf : Nat} {m : Mir} {ks : List Str} {is : List Nat}
theorem pk_of {t t' : TA} (h : PK X kws t) (w : ∀ σ H Q, t' σ H Q → t σ H Q) : PK X kws t' := ⟨fun pos pins s σ H Q I q => h.run pos pins s σ H Q I (w σ H Q q)⟩
theorem vk_nil : PK X [] (va c aN) := pk_of pk_nil fun σ H Q ⟨F, ρ, I, ds, ρ', e, q⟩ => by cases e; exact q [] H F Ext.rfl' I .nil
theorem vk_cons {nm : Option Str} {a : SE} {r : SA} (ha : PE X e (vt c a)) (hr : PK X kws (va c r)) : PK X (⟨nm, e, kpos⟩ :: kws) (va c (aC a r)) :=
  pk_of (pk_cons ha hr) fun σ H Q ⟨F, ρ, I, ds, ρ', e, q⟩ => by
    unfold aC at e
    split at e
    · rename_i x ρ1 e1
      split at e
      · rename_i xs ρ2 e2
        cases e
        exact ⟨F, ρ, I, x, ρ1, e1, fun v H1 F1 x1 I1 r1 => ⟨F1, ρ1, I1, xs, ρ', e2, fun vs H2 F2 x2 I2 r2 => q _ _ _ (x1.trans x2) I2 (.cons (r1.ext x2) r2)⟩⟩
      · cases e
    · cases e
/-- how a call with keywords alone binds, behind so many positional values -/
def KwB (K : PySem.W.Frag) (fd : FuncData) (ps ks : List Str) (is : List Nat) (n : Nat) : Prop := ∀ (s : Shared) (us ws : List Value), K.In s.heap → us.length = n → ws.length = ks.length → BindsTo s fd ⟨us, ks.zip ws⟩ (ps.zip (us ++ pmL is ws))
theorem run_kw {k : Nat} {f : Addr} {fd : FuncData} {ps : List Str} {sp : Sp} {n0 : Nat} {pins : List (Addr × Obj)} {σ : St} {H : Hp} {s : Shared} {Q : VK} {us ws : List Value} {vs zs : List V} (F : FnOk X.prog X.w X.K X.mg X.base CX0 k f fd ps sp) (hr : Room k X.A) (hb : KwB X.K fd ps ks is n0)
    (I : Inv X pins σ H s) (hn : us.length = n0) (hl : ws.length = ks.length) (r : Vals vs us) (rz : Vals zs ws) (h : sp (vs ++ pmL is zs) H Q E0) : wpAny (model X.prog X.w) X.A (call (.ref f) us (ks.zip ws)) (EP X pins σ Q) X.xe s := by
  refine wpAny_call (codeAny_mono (F.run X.A X.stack s H ⟨us, ks.zip ws⟩ _ _ Q E0 hr I.env0 (hb s us ws I.kIn hn hl) (r.append (vals_pm rz is)) h) fun r s' hq => ?_)
  cases r with
  | error e => exact pass0 pins σ H s e s' I hq
  | ok fl =>
    cases fl with
    | ret u => exact I.after hq
    | next => exact False.elim hq
    | brk => exact False.elim hq
    | cont => exact False.elim hq
/-- what the names' values are, with their number -/
def tN (n : Nat) (t : TA) : TA := fun σ H Q => t σ H fun zs H2 => zs.length = n ∧ Q zs H2
/-- f(k = v, ..) -/
structure CalK (P : Program) (w : World) (G : Gx) (mg : Str → Option Value) (base : Heap) (x : Str) (k n : Nat) (m : Mir) (ks : List Str) (is : List Nat) : Prop where
  ex : ∃ (f : Addr) (fd : FuncData) (ps : List Str), mg x = some (.ref f) ∧ PySem.W.keepIn G.K (.ref f) = true ∧ KwB G.K fd ps ks is 0 ∧ FnOk P w G.K mg base CX0 k f fd ps (spV G n m)
theorem va_len {sa : SA} {σ : L2.St} {H : Hp} {Q : List V → Hp → Prop} {nk : Nat} (hl : ∀ ρ xs ρ', sa ρ = some (xs, ρ') → xs.length = nk) (h : va c sa σ H Q) : tN nk (va c sa) σ H Q := by
  obtain ⟨F, ρ, I, xs, ρ', e, q⟩ := h
  exact ⟨F, ρ, I, xs, ρ', e, fun vs H' F' x I' r => ⟨by rw [r.length]; exact hl _ _ _ e, q vs H' F' x I' r⟩⟩
theorem va_pmN {sa : SA} {σ : L2.St} {H : Hp} {Q : List V → Hp → Prop} {nk : Nat} (hl : ∀ ρ xs ρ', sa ρ = some (xs, ρ') → xs.length = nk) (h : va c (aPm is sa) σ H Q) : tN nk (va c sa) σ H fun zs H2 => Q (pmL is zs) H2 := va_len hl (va_pm h)
theorem ve_callKw {sa : SA} (C : CalK X.prog X.w c.G X.mg X.base x k n m ks is) (hK : X.K = c.G.K) (hr : Room k X.A) (hkw : PK X kws (va c sa)) (hl : ∀ ρ xs ρ', sa ρ = some (xs, ρ') → xs.length = ks.length) (hg : Gl X x := by rfl)
    (hall : (backToKw pos (keywordEach kws X.env)).all (·.1.isSome) = true := by rfl) (hks : (backToKw pos (keywordEach kws X.env)).filterMap (·.1) = ks := by rfl) (hdb : (x == ("__debug__" : Str)) = false := by decide)
    (hpl : ((backTo pos (starEach [] X.env)).any (·.1) || (backToKw pos (keywordEach kws X.env)).any (·.1.isNone)) = false := by rfl) : PE X (.Call (.Name x p) [] kws pos) (vt c (sCall n m (aPm is sa))) := by
  obtain ⟨f, fd, ps, hm, hk, hb, hF⟩ := C.ex
  rw [← hK] at hk hb hF
  refine ⟨fun pins s σ H Q I h => ?_⟩
  have h2 := va_pmN hl (call_w σ H Q h)
  refine wpAny_Call_Name_kw (ld_glob I hg hm ?_ hdb)
  refine PySem.W.callWith_KW0 (h₀ := X.base) I.ok.mod.kin hk hall ?_ hpl
  refine thn (hkw.run pos pins s σ H _ I h2) fun ws s2 ⟨zs, H2, I2, rz, l1, q2⟩ => ⟨I2.kIn, ?_⟩
  rw [hks]
  dsimp only at q2
  rw [List.append_nil] at q2
  exact run_kw hF hr hb I2 rfl (rz.length.symm.trans l1) .nil rz q2
/-- a static method of a class by its keywords -/
structure CalSK (P : Program) (w : World) (G : Gx) (mg : Str → Option Value) (base : Heap) (cn : Str) (t : Nat) (x : Str) (k n : Nat) (m : Mir) (ks : List Str) (is : List Nat) : Prop where
  ex : ∃ (p f : Addr) (fd : FuncData) (ps : List Str), mg cn = some (.ref (G.cls t)) ∧ PySem.W.readsIn G.K (G.cls t) (.type "type") = true ∧
    PySem.W.specialIn G.K (.ref (G.cls t)) "__getattribute__" = some (some (.builtin "type.__getattribute__")) ∧
    PySem.W.findCls G.K (.ref (G.cls t)) (.type "type") x = some (.get (.builtin "staticmethod.__get__") (.ref p) .none (.ref (G.cls t))) ∧
    (∃ rest : List Value, PySem.W.recIn G.K p "staticmethod" = some (.ref f :: rest)) ∧ PySem.W.keepIn G.K (.ref f) = true ∧ KwB G.K fd ps ks is 0 ∧ FnOk P w G.K mg base CX0 k f fd ps (spV G n m)
theorem ve_callSKw {sa : SA} {pl : Sem Bool} (C : CalSK X.prog X.w c.G X.mg X.base cn t x k n m ks is) (hK : X.K = c.G.K) (hr : Room k X.A) (hkw : PK X kws (va c sa)) (hl : ∀ ρ xs ρ', sa ρ = some (xs, ρ') → xs.length = ks.length) (hg : Gl X cn := by rfl) (hdb : (cn == ("__debug__" : Str)) = false := by decide)
    (hall : (backToKw pos (keywordEach kws X.env)).all (·.1.isSome) = true := by rfl) (hks : (backToKw pos (keywordEach kws X.env)).filterMap (·.1) = ks := by rfl)
    (hpl : ((backTo pos (starEach [] X.env)).any (·.1) || (backToKw pos (keywordEach kws X.env)).any (·.1.isNone)) = false := by rfl)
    (ht : eval (.Call (.Attribute (.Name cn p) x apos) [] kws pos) X.env = (do
      let ov ← eval (.Name cn p) X.env
      standAt apos.atName
      let (f, first) ← holding [ov] (getMethod ov x pl)
      callWith pos f first (backTo pos (starEach [] X.env)) (backToKw pos (keywordEach kws X.env))) := by rfl) :
    PE X (.Call (.Attribute (.Name cn p) x apos) [] kws pos) (vt c (sCall n m (aPm is sa))) := by
  obtain ⟨q, f, fd, ps, hm, h1, h2, h3, ⟨rest, h4⟩, hk, hb, hF⟩ := C.ex
  rw [← hK] at h1 h2 h3 h4 hk hb hF
  refine ⟨fun pins s σ H Q I h => ?_⟩
  have hh := va_pmN hl (call_w σ H Q h)
  refine PySem.W.methodCall_KW (pl := pl) (ld_glob I hg hm ?_ hdb) ht
  refine PySem.W.method_cls I.kIn h2 (PySem.W.cls_bind I.kIn h1 h3 (wpAny_call (PySem.W.sm_get (s := { s with toks := s.toks + 1 }) I.kIn h4 (PySem.W.handed_on rfl ?_))))
  refine PySem.W.callWith_KW0 (h₀ := X.base) I.ok.mod.kin hk hall ?_ hpl
  refine thn (hkw.run pos pins _ σ H _ (I.tok _) hh) fun ws s2 ⟨zs, H2, I2, rz, l1, q2⟩ => ⟨I2.kIn, ?_⟩
  rw [hks]
  dsimp only at q2
  rw [List.append_nil] at q2
  exact run_kw hF hr hb I2 rfl (rz.length.symm.trans l1) .nil rz q2
/-- o.m(k = v, ..) -/
structure CalOK (P : Program) (w : World) (G : Gx) (mg : Str → Option Value) (base : Heap) (t : Nat) (x : Str) (k n : Nat) (m : Mir) (ks : List Str) (is : List Nat) : Prop where
  ex : ∃ (f : Addr) (fd : FuncData) (ps : List Str), PySem.W.findIn G.K (.ref (G.cls t)) x = some (some (.ref f)) ∧ PySem.W.isFn G.K (.ref f) = true ∧ PySem.W.keepIn G.K (.ref f) = true ∧ KwB G.K fd ps ks is 1 ∧ FnOk P w G.K mg base CX0 k f fd ps (spV G n m)
theorem ve_methKw {o : Expr} {so : SE} {sa : SA} {pl : Sem Bool} (C : CalOK X.prog X.w c.G X.mg X.base t x k n m ks is) (hK : X.K = c.G.K) (cl : Cls c.G.K (c.G.cls t)) (hlk : look x (c.G.fld t) = none) (hr : Room k X.A) (ho : PE X o (vt c so)) (hkw : PK X kws (va c sa)) (hl : ∀ ρ xs ρ', sa ρ = some (xs, ρ') → xs.length = ks.length)
    (hall : (backToKw pos (keywordEach kws X.env)).all (·.1.isSome) = true := by rfl) (hks : (backToKw pos (keywordEach kws X.env)).filterMap (·.1) = ks := by rfl)
    (hpl : ((backTo pos (starEach [] X.env)).any (·.1) || (backToKw pos (keywordEach kws X.env)).any (·.1.isNone)) = false := by rfl)
    (ht : eval (.Call (.Attribute o x apos) [] kws pos) X.env = (do
      let ov ← eval o X.env
      standAt apos.atName
      let (f, first) ← holding [ov] (getMethod ov x pl)
      callWith pos f first (backTo pos (starEach [] X.env)) (backToKw pos (keywordEach kws X.env))) := by rfl) :
    PE X (.Call (.Attribute o x apos) [] kws pos) (vt c (sMeth t n m so (aPm is sa))) := by
  obtain ⟨f, fd, ps, h1, h2, h3, h4, h5⟩ := C.ex
  rw [← hK] at h1 h2 h3 h4 h5 cl
  refine ⟨fun pins s σ H Q I h => ?_⟩
  have hh := meth_w (f := f) hlk σ H Q h
  refine PySem.W.methodCall_KW (pl := pl) (thn (ho.run pins s σ H _ I hh) fun u s1 ⟨x1, H1, I1, rx, a, dx, fs, ex, ea, l, q⟩ => ?_) ht
  subst ex
  obtain rfl : u = Value.ref a := rx
  refine getmeth_ok I1 ea cl ⟨h1, h2, h3⟩ l ?_
  refine PySem.W.callWith_KW0 (first := [.ref a]) (h₀ := X.base) I.ok.mod.kin h3 hall ?_ hpl
  refine thn (hkw.run pos pins s1 σ H1 _ I1 (va_pmN hl q)) fun ws s2 ⟨zs, H2, I2, rz, l1, q2⟩ => ⟨I2.kIn, ?_⟩
  rw [hks]
  dsimp only at q2
  rw [List.append_nil] at q2
  exact run_kw (us := [.ref a]) (vs := [.ref a]) h5 hr h4 I2 rfl (rz.length.symm.trans l1) (.cons rfl .nil) rz q2
theorem make_w {x : Str} {t nf : Nat} {sa : SA} (hnf : (c.G.fld t).length = nf) (σ : L2.St) (H : Hp) (Q : VK) (h : vt c (sMake t nf n m sa) σ H Q) : tMake (c.G.cls t) (spV c.G n m) [] E0 (va c sa) σ H Q := by
  obtain ⟨F, ρ, I, d, ρ', e, q⟩ := h
  unfold sMake at e
  split at e
  · rename_i xs ρ1 e1
    split at e
    · rename_i hn
      split at e
      · rename_i out e2
        split at e
        · rename_i hl
          cases e
          refine ⟨F, ρ, I, xs, ρ', e1, fun us H1 F1 x1 I1 r1 => ?_⟩
          intro a dx ha' hdx hne
          rw [List.append_nil]
          have G1 : Grow F1 H1 F1 (upd H1 dx (.own a)) := Grow.raw I1.fh hdx
          have ha2 : upd H1 dx (.own a) a = none := by rw [upd_ne hne.symm]; exact ha'
          have G2 := G1.trans (Grow.raw (o := .ins (c.G.cls t) dx []) G1.fh ha2)
          have hFa : F1 a = none := ext_none I1.fh ha'
          refine ⟨F1, [a], _, G2.fh, (I1.grow G2).tb, .slf hFa upd_same r1, by simpa using hn, .non, out, e2, fun v H2 F2 k2 o2 r2 => ?_⟩
          cases r2
          refine ⟨rfl, ?_⟩
          obtain ⟨z1, dx', fs, z2, ⟨nn, z3⟩, z4⟩ := o2 a (List.mem_singleton.mpr rfl)
          have I2 := (I1.grow G2).keepX k2 (I1.no_H0 ha') (fun o e => by rw [upd_same] at e; cases e; exact nl_ins) (I1.no_slot ha')
          have I3 := I2.sealO z2 nt_ins nl_ins z1 (I1.no_H0 ha') (I1.no_slot ha')
          have ex := Ext.upd (o := .ins (c.G.cls t) dx' fs) z1
          refine q _ H2 _ ((x1.trans k2.f).trans ex) I3 (.ins upd_same ?_ (z4.ext ex))
          have l1 := z4.length
          rw [List.length_map] at l1
          have l2 := congrArg List.length z3
          rw [List.length_map, List.length_take] at l2
          rw [z3, List.take_of_length_le (by omega)]
        · cases e
      · cases e
    · cases e
  · cases e
/-- C(k = v, ..) -/
structure CalCK (P : Program) (w : World) (G : Gx) (mg : Str → Option Value) (base : Heap) (x : Str) (k n : Nat) (t : Nat) (m : Mir) (ks : List Str) (is : List Nat) : Prop where
  ex : ∃ (f : Addr) (fd : FuncData) (ps : List Str), mg x = some (.ref (G.cls t)) ∧ Mk G.K (G.cls t) f ∧ KwB G.K fd ps ks is 1 ∧ FnOk P w G.K mg base CX0 k f fd ps (spV G n m)
theorem ve_makeKw {sa : SA} (C : CalCK X.prog X.w c.G X.mg X.base x k n t m ks is) (hnf : (c.G.fld t).length = nf) (hK : X.K = c.G.K) (hr : Room (k + 1) X.A) (hkw : PK X kws (va c sa)) (hl : ∀ ρ xs ρ', sa ρ = some (xs, ρ') → xs.length = ks.length) (hg : Gl X x := by rfl)
    (hall : (backToKw pos (keywordEach kws X.env)).all (·.1.isSome) = true := by rfl) (hks : (backToKw pos (keywordEach kws X.env)).filterMap (·.1) = ks := by rfl) (hdb : (x == ("__debug__" : Str)) = false := by decide)
    (hpl : ((backTo pos (starEach [] X.env)).any (·.1) || (backToKw pos (keywordEach kws X.env)).any (·.1.isNone)) = false := by rfl) : PE X (.Call (.Name x p) [] kws pos) (vt c (sMake t nf n m (aPm is sa))) := by
  obtain ⟨f, fd, ps, hm, hk, hb, hF⟩ := C.ex
  rw [← hK] at hk hb hF
  refine pe_of (pe_makeK0 (g := fun us ws => us ++ pmL is ws) (gV := fun vs zs => vs ++ pmL is zs) hk hF hr hg hm ⟨hb, fun r rz => r.append (vals_pm rz is)⟩ pass0 hkw hall hks hdb hpl) fun σ H Q h => ?_
  have h2 := va_pmN hl (make_w (x := x) hnf σ H Q h)
  obtain ⟨F, ρ, I, xs, ρ', e, q⟩ := h2
  refine ⟨F, ρ, I, xs, ρ', e, fun vs H' F' x' I' r => ?_⟩
  obtain ⟨l1, z⟩ := q vs H' F' x' I' r
  refine ⟨rfl, l1, fun y dx h1 h2 h3 => ?_⟩
  have z2 := z y dx h1 h2 h3
  rw [List.append_nil] at z2
  exact z2
end
end VS

set_option Elab.async false
set_option linter.all false
set_option maxRecDepth 100000
set_option maxHeartbeats 4000000
namespace VS
open PySem PySem.Spec PyProof.Rows L2
/-! what is asked of the written part, for calls by names and exceptions made by name -/
theorem aN_ln : ∀ (ρ : Rho) (xs : List D) (ρ' : Rho), aN ρ = some (xs, ρ') → xs.length = 0 := fun ρ xs ρ' h => by cases h; rfl
theorem aC_ln {a : SE} {r : SA} {n : Nat} (h : ∀ (ρ : Rho) (xs : List D) (ρ' : Rho), r ρ = some (xs, ρ') → xs.length = n) : ∀ (ρ : Rho) (xs : List D) (ρ' : Rho), aC a r ρ = some (xs, ρ') → xs.length = n + 1 := fun ρ xs ρ' e => by
  unfold aC at e
  split at e
  · split at e
    · rename_i ys ρ2 e2
      cases e
      rw [List.length_cons, h _ _ _ e2]
    · cases e
  · cases e
theorem fun_kwb {K : PySem.W.Frag} {x qual : Str} {st : Stmt} {f : Addr} {fd : FuncData} {ps ks : List Str} {is : List Nat} {n : Nat} (F : Fun K x qual st f fd)
    (h : ∀ (kV doc pm : Value) (an : Option Addr) (cdv ct : Value) (us ws : List Value), us.length = n → ws.length = ks.length → bindArgs (PySem.W.fnOf x qual (defArgs st) (defBody st) (defScope st) .none kV doc pm an cdv ct) ⟨us, ks.zip ws⟩ = pure (ps.zip (us ++ pmL is ws))) : KwB K fd ps ks is n := by
  obtain ⟨oc, od, kV, doc, pm, an, cdv, ct, osl, rfl, lk, hcd⟩ := F.ex
  exact fun s us ws _ h1 h2 => BindsTo.of_eq (h kV doc pm an cdv ct us ws h1 h2)
/-- how such an __init__ is written -/
structure SupShape (st : Stmt) : Prop where
  body : ∃ p0 p1 p2 p3 p4 p5 q1 q2 q3 q4 : Pos, defBody st = supBody p0 p1 p2 p3 p4 p5 q1 q2 q3 q4 ∧ (p2.endLine == p4.line) = true
  par : ∃ ar : Arg, ((defArgs st).posonlyargs ++ (defArgs st).args).head? = some ar ∧ ar.arg = "self"
  ls : (defScope st).names.lookup ("self" : Str) = some .local
  lv : (defScope st).names.lookup ("value" : Str) = some .local
  lsu : (defScope st).names.lookup ("super" : Str) = some .globalImplicit
  lcl : (defScope st).names.lookup ("__class__" : Str) = some .free
  nc : ∀ x ∈ (defScope st).names, x.2 ≠ .cell
  co : (defScope st).isCoroutine = false
  gen : (defScope st).isGenerator = false
  kind : (defScope st).kind = .function
/-- how it binds its object and its value by name -/
def SupBind (st : Stmt) (qual : Str) : Prop := ∀ (T cc : Addr) (kV doc pm ct cdv : Value) (an : Option Addr) (a v : Value), ∃ k : Option (Array Value) → Sem (List (Str × Value)),
  bindArgs (PySem.W.fnX "__init__" qual (defArgs st) (defBody st) (defScope st) [("__class__", cc)] (.ref T) kV doc pm an cdv ct) ⟨[a], [("value", v)]⟩ = seqItems? (.ref T) >>= k ∧ k (some #[.none]) = pure ([("self", a), ("value", v)] : List (Str × Value))
/-- an exception class as its callers know it -/
structure CalX (P : Program) (G : Gx) (mg : Str → Option Value) (x : Str) : Prop where
  ex : ∃ (C f : Addr) (fd : FuncData), SupC P G.K C f fd ∧ XfC G.K C ∧ PySem.W.keepIn G.K (.ref C) = true ∧ mg x = some (.ref C) ∧ mg "super" = none ∧
    ∀ (s : Shared) (a v : Value), G.K.In s.heap → BindsTo s fd ⟨[a], [("value", v)]⟩ [("self", a), ("value", v)]
theorem ve_exV {c : Ctx} {X : Cx} {x : Str} {e : Expr} {se : SE} {p pos kpos apos : Pos} {k : Nat} (C : CalX X.prog c.G X.mg x) (hK : X.K = c.G.K) (hr : Room (k + 1) X.A) (he : PE X e (vt c se)) (hg : Gl X x := by rfl)
    (hdb : (x == ("__debug__" : Str)) = false := by decide) : PE X (.Attribute (.Call (.Name x p) [] [⟨some "value", e, kpos⟩] pos) "value" apos) (vt c se) := by
  obtain ⟨C, f, fd, h1, h2, h3, h4, h5, h6⟩ := C.ex
  rw [← hK] at h1 h2 h3 h6
  exact ve_exVal h1 h2 h6 h3 hr hg h4 h5 he hdb
theorem calX_mk {P : Program} {G : Gx} {mg : Str → Option Value} {x qual : Str} {st : Stmt} {C f T cda cc : Addr} {oc : Value} {od an : Option Addr} {osl : Array (Option Value)} {kV doc pm ct : Value} {ccl : Value} {cdd : Option Addr} {vs : Array Value} {ccs : Array (Option Value)} {file : Str} {tf : Tok} {cl : Value} {cld : Option Addr} {csl : Array (Option Value)}
    {nm q : Str} {N : Addr} {bs bm : List Value} {sn : List Str} {sub : List Value} {ab : Bool} {col : Option Bool} {dd : Option Addr} {k0 k1 k2 k3 k5 : Option Value} {tc : Value} {td : Option Addr} {tn : Nat} {ts : Array (Option Value)}
    (S : SupShape st) (B : SupBind st qual) (gm : mg x = some (.ref C)) (ms : mg "super" = none)
    (lk : G.K.lookup f = some ⟨oc, od, .func (PySem.W.fnX "__init__" qual (defArgs st) (defBody st) (defScope st) [("__class__", cc)] (.ref T) kV doc pm an (.ref cda) ct), osl⟩) (cd : PySem.W.codeIn G.K (.ref cda) qual = true)
    (lc : G.K.lookup cda = some ⟨ccl, cdd, .fields vs, ccs⟩) (lv2 : vs[2]? = some (.str file tf)) (lf : ((P.main.file : Str) == file) = true) (le : G.K.lookup cc = some ⟨cl, cld, .cell (some (.ref C)), csl⟩)
    (lt : G.K.lookup T = some ⟨tc, td, .seq #[.none] tn, ts⟩) (top : (P.main.scope.names.lookup ("super" : Str)).isSome = false)
    (lC : G.K.lookup C = some (excClassObj nm q C N bs bm true sn sub ab col dd k0 k1 k2 k3 k5 "ValueError.__new__")) (hbm : PySem.HandSPX.refsVE bm = true)
    (sa : PySem.W.findIn G.K (.ref C) "__setattr__" = some (some (.builtin "object.__setattr__"))) (exC : PySem.W.subIn G.K (.ref C) (.type "BaseException") = some true) (tyC : PySem.W.typeIn G.K (.ref C) = some (.type "type")) (kC : PySem.W.keepIn G.K (.ref C) = true)
    (sup : PySem.W.ks_superIn G.K C C "__init__" = some (some (.builtin "ValueError.__init__"))) (opq : PySem.W.nsIn G.K cStatics "thirdparty.any" = some none) (va : PySem.W.findIn G.K (.ref C) "value" = some none)
    (ini : PySem.W.findIn G.K (.ref C) "__init__" = some (some (.ref f))) (tyf : PySem.W.typeIn G.K (.ref f) = some (.type "function")) (mro : PySem.W.mroIn G.K C (.ref C) = some true) (sb : PySem.W.subIn G.K (.ref C) (.type "ValueError") = some true)
    (ga : PySem.W.findIn G.K (.ref C) "__getattribute__" = some (some (.builtin "BaseException.__getattribute__"))) (gg : PySem.W.findIn G.K (.ref C) "__getattr__" = some none) (hd : PySem.W.hasDictIn G.K C = true) : CalX P G mg x := by
  refine ⟨C, f, _, ⟨⟨oc, od, osl, lk⟩, ?_, top, ⟨⟨nm, q, N, bs, bm, sn, sub, ab, col, dd, k0, k1, k2, k3, k5, lC, hbm⟩, sa, exC, tyC, kC⟩, sup, opq, va, ini, tyf, mro, sb⟩, ⟨ga, gg, exC, hd⟩, kC, gm, ms, fun s a v X => ?_⟩
  · obtain ⟨p0, p1, p2, p3, p4, p5, q1, q2, q3, q4, eb, h24⟩ := S.body
    obtain ⟨ar, h1, h2⟩ := S.par
    exact ⟨qual, defArgs st, p0, p1, p2, p3, p4, p5, q1, q2, q3, q4, defScope st, .ref T, kV, doc, pm, ct, an, cda, cc, ar, by rw [eb], cd, h1, h2, h24, S.ls, S.lv, S.lsu, S.lcl, S.nc, S.co, S.gen, S.kind, ⟨ccl, cdd, vs, ccs, file, tf, lc, lv2, lf⟩, cl, cld, csl, le⟩
  · obtain ⟨k, e1, e2⟩ := B T cc kV doc pm ct (.ref cda) an a v
    exact PySem.W.binds_K X rfl lt rfl e1 e2
end VS

set_option Elab.async false
set_option linter.all false
set_option maxRecDepth 100000
set_option maxHeartbeats 4000000
namespace VS
open PySem PySem.Spec PyProof.Rows L2
/-! own exceptions as data -/
theorem exq_ok {P : Program} {w : World} {H : Hp} {h : Heap} {a C dx : Addr} {ox : Obj} {fv : Array Value} (h1 : h.get? a = some ox) (h2 : ox.cls = .ref C) (h3 : ox.dict = some dx) (h4 : ox.data = .fields fv) : ObjOk P w H h a (exq a C dx) :=
  ⟨⟨ox, h1, h2, h3, fv, h4⟩, ⟨_, h1⟩, fun g1 g2 z k => by
    obtain ⟨o, q1, q2⟩ := z
    exact ⟨o, k _ q1, q2⟩⟩
theorem exq_at {P : Program} {w : World} {H : Hp} {h : Heap} {a C dx : Addr} (hok : HOk P w H h) (e : H a = some (exq a C dx)) : ∃ ox : Obj, h.get? a = some ox ∧ ox.cls = .ref C ∧ ox.dict = some dx ∧ ∃ fv, ox.data = .fields fv := by
  have x : ObjOk P w H h a (.ext fun h => ∃ ox : Obj, h.get? a = some ox ∧ ox.cls = .ref C ∧ ox.dict = some dx ∧ ∃ fv, ox.data = .fields fv) := hok a _ e
  exact x.1
theorem xd_at {P : Program} {w : World} {H : Hp} {h : Heap} {dx : Addr} {fs : List (Str × V)} (hok : HOk P w H h) (e : H dx = some (.xd fs)) : ∃ mA, h.Ns1 dx mA ∧ ∀ f, RelO (fs.lookup f) (mA f) := by
  have x : ObjOk P w H h dx (.xd fs) := hok dx _ e
  exact x
/-- two new objects laid and tracked -/
theorem inv_laid2 {X : Cx} {pins : List (Addr × Obj)} {σ : St} {H : Hp} {s : Shared} {h' : Heap} {a b : Addr} {o1 o2 : HO} {t' : Nat} (I : Inv X pins σ H s) (k : ∀ x u, s.heap.get? x = some u → h'.get? x = some u) (ha : s.heap.objs.size ≤ a) (hb : s.heap.objs.size ≤ b) (ne : a ≠ b)
    (n1 : ObjOk X.prog X.w (upd (upd H b o2) a o1) h' a o1) (n2 : ObjOk X.prog X.w (upd (upd H b o2) a o1) h' b o2) : Inv X pins σ (upd (upd H b o2) a o1) { s with heap := h', toks := t' } := by
  have fa := I.hok.fresh ha
  have fb := I.hok.fresh hb
  have na : ∀ {x : Addr} {u : HO}, H x = some u → x ≠ a ∧ x ≠ b := fun {x u} q => ⟨fun z => (by rw [z, fa] at q; cases q), fun z => (by rw [z, fb] at q; cases q)⟩
  have nb : ∀ {x : Addr} {u : Obj}, s.heap.get? x = some u → x ≠ a ∧ x ≠ b := fun {x u} q => ⟨Nat.ne_of_lt (Nat.lt_of_lt_of_le (Heap.lt_size q) ha), Nat.ne_of_lt (Nat.lt_of_lt_of_le (Heap.lt_size q) hb)⟩
  have up : ∀ {x : Addr} {u : HO}, H x = some u → upd (upd H b o2) a o1 x = some u := fun {x u} q => by rw [upd_ne (na q).1, upd_ne (na q).2]; exact q
  refine I.un (t' := t') ?_ fun x u e => ?_
  · exact {
      keep := fun x u q _ _ _ => k x u q
      slot := fun x u q _ _ _ => ⟨u.slots, k x u q⟩
      free := fun x u q n _ => by rw [upd_ne (nb q).1, upd_ne (nb q).2]; exact n
      there := fun x u q _ => ⟨u, k x u q⟩
      tups := fun x xs q => up q
      frzs := fun x u v q => up q
      tbls := fun x ps q => ⟨#[], by rw [up q]; simp⟩ }
  · by_cases z1 : x = a
    · subst z1
      rw [upd_same] at e
      cases e
      exact n1
    · rw [upd_ne z1] at e
      by_cases z2 : x = b
      · subst z2
        rw [upd_same] at e
        cases e
        exact n2
      · rw [upd_ne z2] at e
        exact (I.hok x u e).stay (fun c v _ q => k c v q) (fun c hc => up hc) (fun c xs hc => up hc)
/-- such an exception made, however it is called -/
def tMkX (C : Addr) (t : TA) : TE := fun σ H Q => t σ H fun vs H1 => ∃ v, vs = [v] ∧ ∀ a dx, H1 a = none → H1 dx = none → a ≠ dx → Q (.ref a) (upd (upd H1 dx (.xd [("value", v)])) a (exq a C dx))
theorem made_ok {X : Cx} {pins : List (Addr × Obj)} {σ : St} {H : Hp} {hp h' : Heap} {g : Array GenState} {dr : Drawn} {tk tk' : Nat} {os : OsState} {C dx : Addr} {t1 : Addr} {v : V} {u : Value} {Q : VK} (I : Inv X pins σ H ⟨hp, g, dr, tk, os⟩) (ra : RelV v u)
    (ks : ∀ b o, b ≠ hp.objs.size + 1 → hp.get? b = some o → h'.get? b = some o) (le : hp.objs.size ≤ dx) (hx : h'.get? (hp.objs.size + 1) = some ({ cls := .ref C, dict := some dx, data := .fields #[.ref t1, .none, .none, .none, .bool false, .none] } : Obj))
    (hn : h'.Ns1 dx (fun y => if y = ("value" : Str) then some u else none)) (q : ∀ a dx, H a = none → H dx = none → a ≠ dx → Q (.ref a) (upd (upd H dx (.xd [("value", v)])) a (exq a C dx))) :
    EP X pins σ Q (.ref (hp.objs.size + 1)) ⟨h', g, dr, tk', os⟩ := by
  have kk : ∀ b u, hp.get? b = some u → h'.get? b = some u := fun b u z => ks b u (fun y => by
    subst y
    exact absurd (Heap.lt_size z) (Nat.not_lt.mpr (Nat.le_succ _))) z
  have ne : hp.objs.size + 1 ≠ dx := fun z => by
    obtain ⟨o, es, ep, e1, e2, _⟩ := hn
    rw [← z, hx] at e1
    cases e1
    cases e2
  have f1 := I.hok.fresh (show hp.objs.size ≤ hp.objs.size + 1 from Nat.le_succ _)
  have f2 := I.hok.fresh (show hp.objs.size ≤ dx from le)
  have J := inv_laid2 (t' := tk') (a := hp.objs.size + 1) (b := dx) (o1 := exq (hp.objs.size + 1) C dx) (o2 := .xd [("value", v)]) I kk (Nat.le_succ _) le ne (exq_ok hx rfl rfl rfl) ⟨_, hn, fun f => by
    rw [lookup_put]
    by_cases z : f = ("value" : Str)
    · rw [if_pos z, if_pos z]
      exact ra
    · rw [if_neg z, if_neg z]
      exact True.intro⟩
  exact ⟨.ref (hp.objs.size + 1), _, J, rfl, q _ _ f1 f2 ne⟩
section
variable {X : Cx} {x : Str} {C f : Addr} {fd : FuncData} {p pos kpos : Pos} {e : Expr} {te : TE} {k : Nat}
/-- X(e) -/
theorem pe_mkX (T : SupC X.prog X.K C f fd) (hb : ∀ (s : Shared) (a v : Value), X.K.In s.heap → BindsTo s fd ⟨[a, v], []⟩ [("self", a), ("value", v)]) (kp : PySem.W.keepIn X.K (.ref C) = true) (hr : Room (k + 1) X.A) (hg : Gl X x) (hm : X.mg x = some (.ref C)) (ms : X.mg "super" = none) (he : PE X e te)
    (hdb : (x == ("__debug__" : Str)) = false := by decide) (hst : starEach [e] X.env = (false, eval e X.env) :: starEach [] X.env := by rfl) (hpl : (backTo pos (starEach [] X.env)).any (·.1) = false := by rfl) : PE X (.Call (.Name x p) [e] [] pos) (tMkX C (tCons te tNil)) := by
  refine ⟨fun pins s σ H Q I h => ?_⟩
  obtain ⟨nm, qn, N, bs, bm, sn, sub, ab, col, dd, k0, k1, k2, k3, k5, hC, hbm⟩ := T.oex.cls
  refine wpAny_Call_Name_kw (ld_glob I hg hm ?_ hdb)
  refine PySem.W.callWith_K (h₀ := X.base) I.ok.mod.kin kp (thn ((pa_cons he pa_nil hst).run pos pins s σ H _ I h) fun us s2 ⟨vs, H2, I2, rz, v, ez, qv⟩ => ⟨I2.kIn, ?_⟩) hst hpl
  subst ez
  cases rz with
  | @cons _ u0 _ ur ra rn =>
    cases rn
    show wpAny _ _ (call (.ref C) [u0]) _ _ _
    have bk := I2.bk
    have KX := I2.kIn
    have fresh : ∀ n, s2.heap.objs.size ≤ n → X.base.get? n = none := fun n hn => by
      cases z : X.base.get? n with
      | none => rfl
      | some o => exact absurd (Heap.lt_size (bk _ _ z)) (Nat.not_lt.mpr hn)
    obtain ⟨hp, g, dr, tk, os⟩ := s2
    have k1 : ∀ b o, hp.get? b = some o → ((hp.push (PySem.W.kdv_tup [u0])).push (PySem.HandSPX.excO C hp.objs.size)).get? b = some o := fun b o z => Heap.get?_push_of_some _ (Heap.get?_push_of_some _ z)
    have hget : ((hp.push (PySem.W.kdv_tup [u0])).push (PySem.HandSPX.excO C hp.objs.size)).get? (hp.objs.size + 1) = some (PySem.HandSPX.excO C hp.objs.size) := by heap_get
    have hroom : (X.A.under (.builtin "type.__call__" ⟨[.ref C, u0], []⟩)).depth < recursionLimit := (hr.make C [u0] []).depth
    have hsz : hp.objs.size ≤ ((hp.push (PySem.W.kdv_tup [u0])).push (PySem.HandSPX.excO C hp.objs.size)).objs.size := by rw [Heap.size_push, Heap.size_push]; omega
    exact wpAny_call (PySem.HandSPX.call_own F.excBase_ValueError (fun Y => PySem.HandSPX.refsVE_contains Y bm hbm) (KX _ _ hC) (PySem.W.looks_findIn KX T.ini) (fun self => PySem.W.bind_fn KX self T.tyf) (by rw [sizeLine_eq]; show 1 ≤ _; decide) (sup_init T I.ok.mod (fun b o z => k1 b o (bk b o z)) (fresh _ (Nat.le_succ _)) ms hroom hget (hb _ _ _ (KX.keeps k1)) (fun h' tk' dx t1 ks le hx hn => ⟨rfl, made_ok I2 ra (fun b o z y => ks b o z (k1 b o y)) (Nat.le_trans hsz le) hx hn qv⟩)))
/-- X() -/
theorem pe_mkX0 (T : SupC X.prog X.K C f fd) (hb : ∀ (s : Shared) (a : Value), X.K.In s.heap → BindsTo s fd ⟨[a], []⟩ [("self", a), ("value", .none)]) (kp : PySem.W.keepIn X.K (.ref C) = true) (hr : Room (k + 1) X.A) (hg : Gl X x) (hm : X.mg x = some (.ref C)) (ms : X.mg "super" = none)
    (hdb : (x == ("__debug__" : Str)) = false := by decide) : PE X (.Call (.Name x p) [] [] pos) (tMkX C fun _ H Q => Q [.non] H) := by
  refine ⟨fun pins s σ H Q I h => ?_⟩
  obtain ⟨nm, qn, N, bs, bm, sn, sub, ab, col, dd, k0, k1, k2, k3, k5, hC, hbm⟩ := T.oex.cls
  obtain ⟨v, ez, qv⟩ := h
  cases ez
  refine wpAny_Call_Name_kw (ld_glob I hg hm ?_ hdb)
  refine PySem.W.callWith_K0 I.kIn kp ?_
  show wpAny _ _ (call (.ref C) []) _ _ _
  have bk := I.bk
  have KX := I.kIn
  have fresh : ∀ n, s.heap.objs.size ≤ n → X.base.get? n = none := fun n hn => by
    cases z : X.base.get? n with
    | none => rfl
    | some o => exact absurd (Heap.lt_size (bk _ _ z)) (Nat.not_lt.mpr hn)
  obtain ⟨hp, g, dr, tk, os⟩ := s
  have k1 : ∀ b o, hp.get? b = some o → ((hp.push (PySem.W.kdv_tup [])).push (PySem.HandSPX.excO C hp.objs.size)).get? b = some o := fun b o z => Heap.get?_push_of_some _ (Heap.get?_push_of_some _ z)
  have hget : ((hp.push (PySem.W.kdv_tup [])).push (PySem.HandSPX.excO C hp.objs.size)).get? (hp.objs.size + 1) = some (PySem.HandSPX.excO C hp.objs.size) := by heap_get
  have hroom : (X.A.under (.builtin "type.__call__" ⟨[.ref C], []⟩)).depth < recursionLimit := (hr.make C [] []).depth
  have hsz : hp.objs.size ≤ ((hp.push (PySem.W.kdv_tup [])).push (PySem.HandSPX.excO C hp.objs.size)).objs.size := by rw [Heap.size_push, Heap.size_push]; omega
  exact wpAny_call (PySem.HandSPX.call_own F.excBase_ValueError (fun Y => PySem.HandSPX.refsVE_contains Y bm hbm) (KX _ _ hC) (PySem.W.looks_findIn KX T.ini) (fun self => PySem.W.bind_fn KX self T.tyf) (Nat.zero_le _) (sup_init T I.ok.mod (fun b o z => k1 b o (bk b o z)) (fresh _ (Nat.le_succ _)) ms hroom hget (hb _ _ (KX.keeps k1)) (fun h' tk' dx t1 ks le hx hn => ⟨rfl, made_ok I (v := .non) rfl (fun b o z y => ks b o z (k1 b o y)) (Nat.le_trans hsz le) hx hn qv⟩)))
/-- X(value=e) -/
theorem pe_mkXk (T : SupC X.prog X.K C f fd) (hb : ∀ (s : Shared) (a v : Value), X.K.In s.heap → BindsTo s fd ⟨[a], [("value", v)]⟩ [("self", a), ("value", v)]) (kp : PySem.W.keepIn X.K (.ref C) = true) (hr : Room (k + 1) X.A) (hg : Gl X x) (hm : X.mg x = some (.ref C)) (ms : X.mg "super" = none) (he : PE X e te)
    (hdb : (x == ("__debug__" : Str)) = false := by decide) : PE X (.Call (.Name x p) [] [⟨some "value", e, kpos⟩] pos) (tMkX C (tCons te tNil)) := by
  refine ⟨fun pins s σ H Q I h => ?_⟩
  obtain ⟨nm, qn, N, bs, bm, sn, sub, ab, col, dd, k0, k1, k2, k3, k5, hC, hbm⟩ := T.oex.cls
  refine wpAny_Call_Name_kw (ld_glob I hg hm ?_ hdb)
  refine PySem.W.callWith_KW0 (h₀ := X.base) I.ok.mod.kin kp (by rfl) ?_ (by rfl)
  refine thn ((pk_cons he pk_nil).run pos pins s σ H _ I h) fun ws s2 ⟨zs, H2, I2, rz, v, ez, qv⟩ => ⟨I2.kIn, ?_⟩
  subst ez
  cases rz with
  | @cons _ u0 _ ur ra rn =>
    cases rn
    show wpAny _ _ (call (.ref C) [] [("value", u0)]) _ _ _
    have bk := I2.bk
    have KX := I2.kIn
    have fresh : ∀ n, s2.heap.objs.size ≤ n → X.base.get? n = none := fun n hn => by
      cases z : X.base.get? n with
      | none => rfl
      | some o => exact absurd (Heap.lt_size (bk _ _ z)) (Nat.not_lt.mpr hn)
    obtain ⟨hp, g, dr, tk, os⟩ := s2
    have k1 : ∀ b o, hp.get? b = some o → ((hp.push (PySem.W.kdv_tup [])).push (PySem.HandSPX.excO C hp.objs.size)).get? b = some o := fun b o z => Heap.get?_push_of_some _ (Heap.get?_push_of_some _ z)
    have hget : ((hp.push (PySem.W.kdv_tup [])).push (PySem.HandSPX.excO C hp.objs.size)).get? (hp.objs.size + 1) = some (PySem.HandSPX.excO C hp.objs.size) := by heap_get
    have hroom : (X.A.under (.builtin "type.__call__" ⟨[.ref C], [("value", u0)]⟩)).depth < recursionLimit := (hr.make C [] [("value", u0)]).depth
    have hsz : hp.objs.size ≤ ((hp.push (PySem.W.kdv_tup [])).push (PySem.HandSPX.excO C hp.objs.size)).objs.size := by rw [Heap.size_push, Heap.size_push]; omega
    exact wpAny_call (PySem.VSX.kw_call hbm (KX _ _ hC) (PySem.W.looks_findIn KX T.ini) (fun self => PySem.W.bind_fn KX self T.tyf) (Nat.le_refl 1) (sup_init T I.ok.mod (fun b o z => k1 b o (bk b o z)) (fresh _ (Nat.le_succ _)) ms hroom hget (hb _ _ _ (KX.keeps k1)) (fun h' tk' dx t1 ks le hx hn => ⟨rfl, made_ok I2 ra (fun b o z y => ks b o z (k1 b o y)) (Nat.le_trans hsz le) hx hn qv⟩)))
end
end VS

set_option Elab.async false
set_option linter.all false
set_option maxRecDepth 100000
set_option maxHeartbeats 4000000
namespace VS
open PySem PySem.Spec PyProof.Rows L2
/-! exceptions as data: made, their value, isinstance -/
/-- an exception class among the classes, as its callers know it -/
structure CalE (P : Program) (G : Gx) (mg : Str → Option Value) (x : Str) (k : Nat) : Prop where
  ex : ∃ (f : Addr) (fd : FuncData), SupC P G.K (G.cls k) f fd ∧ PySem.W.keepIn G.K (.ref (G.cls k)) = true ∧ mg x = some (.ref (G.cls k)) ∧ mg "super" = none ∧
    (∀ (s : Shared) (a v : Value), G.K.In s.heap → BindsTo s fd ⟨[a, v], []⟩ [("self", a), ("value", v)]) ∧ (∀ (s : Shared) (a v : Value), G.K.In s.heap → BindsTo s fd ⟨[a], [("value", v)]⟩ [("self", a), ("value", v)]) ∧
    (∀ (s : Shared) (a : Value), G.K.In s.heap → BindsTo s fd ⟨[a], []⟩ [("self", a), ("value", .none)])
def sExc (k : Nat) (e : SE) : SE := fun ρ => match e ρ with
  | some (d, ρ1) => some (.exc k d, ρ1)
  | none => none
section
variable {c : Ctx} {X : Cx} {x : Str} {p p2 pos kpos apos : Pos} {e : Expr} {se : SE} {k lv : Nat}
theorem mkX_w (σ : L2.St) (H : Hp) (Q : VK) (h : vt c (sExc k se) σ H Q) : tMkX (c.G.cls k) (tCons (vt c se) tNil) σ H Q := by
  obtain ⟨F, ρ, I, d, ρ', e, q⟩ := h
  unfold sExc at e
  split at e
  · rename_i y ρ1 e1
    cases e
    refine ⟨F, ρ, I, y, ρ', e1, fun v H1 F1 x1 I1 r1 => ⟨v, rfl, fun a dx ha hd ne => ?_⟩⟩
    have G1 := Grow.new (o := .xd [("value", v)]) I1.fh hd
    have ha2 : upd H1 dx (.xd [("value", v)]) a = none := by rw [upd_ne ne]; exact ha
    have G2 := G1.trans (Grow.new (o := exq a (c.G.cls k) dx) G1.fh ha2)
    exact q _ _ _ (x1.trans G2.f) (I1.grow G2) (.exc upd_same (by rw [upd_ne (Ne.symm ne)]; exact upd_same) (r1.ext G2.f))
  · cases e
theorem ve_mkX (C : CalE X.prog c.G X.mg x k) (hK : X.K = c.G.K) (hr : Room (lv + 1) X.A) (he : PE X e (vt c se)) (hg : Gl X x := by rfl)
    (hdb : (x == ("__debug__" : Str)) = false := by decide) (hst : starEach [e] X.env = (false, eval e X.env) :: starEach [] X.env := by rfl) (hpl : (backTo pos (starEach [] X.env)).any (·.1) = false := by rfl) : PE X (.Call (.Name x p) [e] [] pos) (vt c (sExc k se)) := by
  obtain ⟨f, fd, h1, h2, h3, h4, h5, h6, h7⟩ := C.ex
  rw [← hK] at h1 h2 h5 h6 h7
  exact pe_of (pe_mkX h1 h5 h2 hr hg h3 h4 he hdb hst hpl) mkX_w
theorem ve_mkXk (C : CalE X.prog c.G X.mg x k) (hK : X.K = c.G.K) (hr : Room (lv + 1) X.A) (he : PE X e (vt c se)) (hg : Gl X x := by rfl) (hdb : (x == ("__debug__" : Str)) = false := by decide) : PE X (.Call (.Name x p) [] [⟨some "value", e, kpos⟩] pos) (vt c (sExc k se)) := by
  obtain ⟨f, fd, h1, h2, h3, h4, h5, h6, h7⟩ := C.ex
  rw [← hK] at h1 h2 h5 h6 h7
  exact pe_of (pe_mkXk h1 h6 h2 hr hg h3 h4 he hdb) mkX_w
theorem ve_mkX0 (C : CalE X.prog c.G X.mg x k) (hK : X.K = c.G.K) (hr : Room (lv + 1) X.A) (hg : Gl X x := by rfl) (hdb : (x == ("__debug__" : Str)) = false := by decide) : PE X (.Call (.Name x p) [] [] pos) (vt c (sExc k (sK .non))) := by
  obtain ⟨f, fd, h1, h2, h3, h4, h5, h6, h7⟩ := C.ex
  rw [← hK] at h1 h2 h5 h6 h7
  refine pe_of (pe_mkX0 h1 h7 h2 hr hg h3 h4 hdb) fun σ H Q h => ?_
  obtain ⟨F, ρ, I, d, ρ', e1, q⟩ := mkX_w σ H Q h
  cases e1
  exact q .non H F Ext.rfl' I .non
/-- the value of an exception -/
def gExV (ks : List Nat) : G1
  | .exc k d => if k ∈ ks then some d else none
  | _ => none
def XvAll (K : PySem.W.Frag) (G : Gx) (ks : List Nat) : Prop := ∀ k ∈ ks, XfC K (G.cls k) ∧ PySem.W.findIn K (.ref (G.cls k)) "value" = some none
theorem ve_exF {ks : List Nat} (T : XvAll c.G.K c.G ks) (hK : X.K = c.G.K) (he : PE X e (vt c se)) (hb : attributeBase e "value" X.env (eval e X.env) = eval e X.env := by rfl) : PE X (.Attribute e "value" apos) (vt c (s1 (gExV ks) se)) := by
  refine ⟨fun pins s σ H Q I h => ?_⟩
  obtain ⟨F, ρ, I0, d, ρ', e1, q⟩ := h
  obtain ⟨y, ey, eg⟩ := s1_inv e1
  unfold gExV at eg
  split at eg
  · rename_i k d0
    split at eg
    · rename_i hk
      cases eg
      obtain ⟨T1, T2⟩ := T k hk
      rw [← hK] at T1 T2
      refine attr_of hb (thn (he.run pins s σ H (fun v H1 => ∃ F1, Ext F F1 ∧ Ok c F1 H1 σ ρ' ∧ Rep c.G F1 v (.exc k d)) I ⟨F, ρ, I0, _, ρ', ey, fun v H1 F1 x1 I1 r1 => ⟨F1, x1, I1, r1⟩⟩) fun u s1 hh => ?_)
      obtain ⟨v, H1, I1, rx, F1, x1, J1, r1⟩ := hh
      cases r1 with
      | @exc a dx _ v' _ h1 h2 r =>
        obtain rfl : u = Value.ref a := rx
        obtain ⟨ox, g1, g2, g3, fv, g4⟩ := exq_at I1.hok (J1.fh _ _ h1)
        obtain ⟨mA, hns, hr⟩ := xd_at I1.hok (J1.fh _ _ h2)
        obtain ⟨od, ho, hl⟩ := lookIn_ns hns
        obtain ⟨u', hu, ru⟩ := RelO.some_of (v := v') (o := mA "value") (hr "value")
        have J : PySem.W.InstAt s1.heap a ox (c.G.cls k) (some od) := ⟨g1, g2, by unfold PySem.W.notCls; rw [g4] <;> rfl, by rw [g3]; exact ho⟩
        exact PySem.HandSPX.exc_get I1.kIn J T1.ga T1.gg T1.exC (PySem.W.findObj_own T1.hdC T2 rfl (by rw [hl, hu])) (handed_of ru) ⟨v', H1, I1.tok _, ru, q v' H1 F1 x1 J1 r⟩
    · cases eg
  · cases eg
/-- isinstance of an exception -/
def rIsX (K : PySem.W.Frag) : List V → Hp → VK → Prop := fun xs H Q => ∃ (a C dx : Addr) (fs : List (Str × V)) (w : V) (cv : Value) (b : Bool), xs = [.ref a, w] ∧ ExcC K C ∧ H a = some (exq a C dx) ∧ H dx = some (.xd fs) ∧ (∀ u, RelV w u → u = cv) ∧ PySem.W.kitOne K (.ref C) cv = some b ∧ Q (.bl b) H
theorem call_isX : CallR X (.builtin "isinstance") (rIsX X.K) := by
  intro pins s σ H xs us Q I r h
  obtain ⟨a, D, dx, fs, w, cv, b, rfl, C, ha, hd, hcv, e, q⟩ := h
  cases r with
  | cons rx rr =>
    cases rr with
    | cons rt rr =>
      cases rr
      cases rx
      have ec := hcv _ rt
      subst ec
      obtain ⟨ox, g1, g2, g3, fv, g4⟩ := exq_at I.hok ha
      obtain ⟨mA, hns, hr⟩ := xd_at I.hok hd
      obtain ⟨od, ho, hl⟩ := lookIn_ns hns
      have J : PySem.W.InstAt s.heap a ox D (some od) := ⟨g1, g2, by unfold PySem.W.notCls; rw [g4] <;> rfl, by rw [g3]; exact ho⟩
      have hcl : (PySem.W.clsIn X.K D).isSome = true := by
        obtain ⟨cd, hc, _⟩ := PySem.W.any_some C.hd
        rw [hc]
        rfl
      exact PySem.W.kia_one (PySem.W.kitx_exc hcl C.hg C.hk C.hs C.ha C.hn C.ht C.hm) I.kIn J e (fun z => nomatch z) fun tk => ⟨.bl b, H, I.kept (t' := tk) fun _ _ z => z, rfl, q⟩
def gIsX (tab : List (Nat × Bool)) : G1
  | .exc k _ => (tab.lookup k).map .bl
  | _ => none
def XiAll (K : PySem.W.Frag) (G : Gx) (cv : Value) (tab : List (Nat × Bool)) : Prop := ∀ k b, tab.lookup k = some b → ExcC K (G.cls k) ∧ PySem.W.kitOne K (.ref (G.cls k)) cv = some b
theorem ve_isX {e2 : Expr} {tab : List (Nat × Bool)} {w : V} {cv : Value} (T : XiAll c.G.K c.G cv tab) (hK : X.K = c.G.K) (hm : X.mg "isinstance" = none) (he : PE X e (vt c se)) (he2 : PE X e2 (tC w)) (hcv : ∀ u, RelV w u → u = cv) (hg : Gl X "isinstance" := by rfl)
    (h1 : starEach [e, e2] X.env = (false, eval e X.env) :: starEach [e2] X.env := by rfl) (h2 : starEach [e2] X.env = (false, eval e2 X.env) :: starEach [] X.env := by rfl) (hpl : (backTo pos (starEach [e2] X.env)).any (·.1) = false := by rfl) :
    PE X (.Call (.Name "isinstance" p) [e, e2] [] pos) (vt c (s1 (gIsX tab) se)) := by
  refine pe_of (pe_callB call_isX hg hm (by decide +kernel) (pa_cons he (pa_cons he2 pa_nil h2) h1) (by decide) (by decide) h1 hpl) fun σ H Q ⟨F, ρ, I, d, ρ', e, q⟩ => ?_
  obtain ⟨y, e1, eg⟩ := s1_inv e
  refine ⟨F, ρ, I, y, ρ', e1, fun v H1 F1 x1 I1 r1 => ?_⟩
  unfold gIsX at eg
  split at eg
  · rename_i k d0
    cases hl : tab.lookup k with
    | none => rw [hl] at eg; cases eg
    | some b =>
      rw [hl] at eg
      cases eg
      obtain ⟨T1, T2⟩ := T k b hl
      rw [← hK] at T1 T2
      cases r1 with
      | exc g1 g2 r => exact ⟨_, _, _, _, w, cv, b, rfl, T1, I1.fh _ _ g1, I1.fh _ _ g2, hcv, T2, q _ _ _ x1 I1 (.bl _)⟩
  · cases eg
end
end VS

set_option Elab.async false
set_option linter.all false
set_option maxRecDepth 100000
set_option maxHeartbeats 4000000
namespace VS
open PySem PySem.Spec PyProof.Rows L2
/-! repr of data of any kind, {} too -/
mutual
def shD (o : Addr → Option Str) : D → Option Str
  | .non => some "None"
  | .bl b => some (if b then "True" else "False")
  | .int i => if i.natAbs.log2 < 1920 then some (toString i) else none
  | .str x => some (reprText x)
  | .adr a => o a
  | .lst xs => match shDs o xs with
    | some ts => some (listText ts)
    | none => none
  | .tup xs => match shDs o xs with
    | some ts => some (tupleText ts)
    | none => none
  | .dct false [] [] => some (dictText [])
  | _ => none
def shDs (o : Addr → Option Str) : List D → Option (List Str)
  | [] => some []
  | d :: ds => match shD o d, shDs o ds with
    | some t, some ts => some (t :: ts)
    | _, _ => none
end
mutual
def dpD : D → Nat
  | .lst xs => dpDs xs + 1
  | .tup xs => dpDs xs + 1
  | .dct _ _ _ => 1
  | _ => 0
def dpDs : List D → Nat
  | [] => 0
  | d :: ds => max (dpD d) (dpDs ds)
end
theorem shD_lst {o : Addr → Option Str} {xs : List D} {t : Str} (h : shD o (.lst xs) = some t) : ∃ ts, shDs o xs = some ts ∧ t = listText ts := by
  unfold shD at h
  split at h
  · cases h; exact ⟨_, by assumption, rfl⟩
  · cases h
theorem shD_tup {o : Addr → Option Str} {xs : List D} {t : Str} (h : shD o (.tup xs) = some t) : ∃ ts, shDs o xs = some ts ∧ t = tupleText ts := by
  unfold shD at h
  split at h
  · cases h; exact ⟨_, by assumption, rfl⟩
  · cases h
theorem shDs_cons {o : Addr → Option Str} {d : D} {ds : List D} {ts : List Str} (h : shDs o (d :: ds) = some ts) : ∃ t us, shD o d = some t ∧ shDs o ds = some us ∧ ts = t :: us := by
  unfold shDs at h
  split at h
  · cases h; exact ⟨_, _, by assumption, by assumption, rfl⟩
  · cases h
theorem shDs_len {o : Addr → Option Str} : ∀ {ds : List D} {ts : List Str}, shDs o ds = some ts → ts.length = ds.length
  | [], _, h => by unfold shDs at h; cases h; rfl
  | d :: ds, _, h => by
    obtain ⟨t, us, _, h2, rfl⟩ := shDs_cons h
    rw [List.length_cons, List.length_cons, shDs_len h2]
/-- things that stand by their address show themselves -/
structure OSh (P : Program) (w : World) (o : Addr → Option Str) (F : Hp) (h : Heap) : Prop where
  k : ∀ p t, o p = some t → ReprK P w [] h 0 (.ref p) t
  n1 : ∀ p t vs, o p = some t → F p ≠ some (.lst vs)
  n2 : ∀ p t vs, o p = some t → F p ≠ some (.tup vs)
  n3 : ∀ p t od u, o p = some t → F p ≠ some (.frz od u)
theorem OSh.no {P : Program} {w : World} {F : Hp} {h : Heap} : OSh P w (fun _ => none) F h := ⟨fun _ _ z => (by cases z), fun _ _ _ z => (by cases z), fun _ _ _ z => (by cases z), fun _ _ _ _ z => (by cases z)⟩
section
variable {G : Gx} {F H : Hp} {h : Heap} {P : Program} {w : World} {o : Addr → Option Str}
theorem dct_fz {a : Addr} {od : Obj} {ks : List NestedKey} {vs : List V} (x : DicAt G.w false (some od) F F a ks vs) : ∃ kvs : List (Key × V), F a = some (.frz od (.dK kvs)) ∧ ks = kvs.map (fun x => nkOf x.1) := by
  obtain ⟨kvs, h1, h2, _⟩ := x
  exact ⟨kvs, h1, h2⟩
mutual
theorem Rep.dp1 (O : OSh P w o F h) : ∀ {v : V} {d d' : D} {t t' : Str}, Rep G F v d → Rep G F v d' → shD o d = some t → shD o d' = some t' → dpD d = dpD d'
  | _, _, _, _, _, .non, r, _, _ => by cases r; rfl
  | _, _, _, _, _, .bl b, r, _, _ => by cases r; rfl
  | _, _, _, _, _, .int i, r, _, _ => by cases r; rfl
  | _, _, _, _, _, .str x, r, _, _ => by cases r; rfl
  | _, _, _, _, _, .adr a, r, h1, h2 => by
    have z : o a = some _ := h1
    cases r with
    | adr => rfl
    | lst q _ => exact absurd q (O.n1 _ _ _ z)
    | tup q _ => exact absurd q (O.n2 _ _ _ z)
    | scr _ _ => cases h2
    | ins _ _ _ => cases h2
    | exc _ _ _ => cases h2
    | @dct _ b od ks vs ds q _ =>
      cases b with
      | true => unfold shD at h2; cases h2
      | false =>
        obtain ⟨kvs, q1, _⟩ := dct_fz q
        exact absurd q1 (O.n3 _ _ _ _ z)
  | _, _, _, _, _, .lst q s, r, h1, h2 => by
    obtain ⟨ts, g1, _⟩ := shD_lst h1
    cases r with
    | adr => exact absurd q (O.n1 _ _ _ h2)
    | lst q' s' =>
      rw [q] at q'
      cases q'
      obtain ⟨us, g2, _⟩ := shD_lst h2
      simp only [dpD]
      rw [Reps.dp1 O s s' g1 g2]
    | tup q' s' => rw [q] at q'; cases q'
    | scr _ _ => cases h2
    | ins _ _ _ => cases h2
    | exc _ _ _ => cases h2
    | @dct _ b od ks vs ds q' _ =>
      cases b with
      | true => unfold shD at h2; cases h2
      | false =>
        obtain ⟨kvs, q1, _⟩ := dct_fz q'
        rw [q] at q1; cases q1
  | _, _, _, _, _, .tup q s, r, h1, h2 => by
    obtain ⟨ts, g1, _⟩ := shD_tup h1
    cases r with
    | adr => exact absurd q (O.n2 _ _ _ h2)
    | tup q' s' =>
      rw [q] at q'
      cases q'
      obtain ⟨us, g2, _⟩ := shD_tup h2
      simp only [dpD]
      rw [Reps.dp1 O s s' g1 g2]
    | lst q' s' => rw [q] at q'; cases q'
    | scr _ _ => cases h2
    | ins _ _ _ => cases h2
    | exc _ _ _ => cases h2
    | @dct _ b od ks vs ds q' _ =>
      cases b with
      | true => unfold shD at h2; cases h2
      | false =>
        obtain ⟨kvs, q1, _⟩ := dct_fz q'
        rw [q] at q1; cases q1
  | _, _, _, _, _, .dct (b := b) q s, r, h1, h2 => by
    cases b with
    | true => unfold shD at h1; cases h1
    | false =>
      obtain ⟨kvs, q1, _⟩ := dct_fz q
      cases r with
      | adr => exact absurd q1 (O.n3 _ _ _ _ h2)
      | tup q' s' => rw [q1] at q'; cases q'
      | lst q' s' => rw [q1] at q'; cases q'
      | scr _ _ => cases h2
      | ins _ _ _ => cases h2
      | exc _ _ _ => cases h2
      | dct _ _ => rfl
  | _, _, _, _, _, .scr _ _, _, h1, _ => by cases h1
  | _, _, _, _, _, .ins _ _ _, _, h1, _ => by cases h1
  | _, _, _, _, _, .exc _ _ _, _, h1, _ => by cases h1
theorem Reps.dp1 (O : OSh P w o F h) : ∀ {vs : List V} {ds ds' : List D} {ts ts' : List Str}, Reps G F vs ds → Reps G F vs ds' → shDs o ds = some ts → shDs o ds' = some ts' → dpDs ds = dpDs ds'
  | _, _, _, _, _, .nil, r, _, _ => by cases r; rfl
  | _, _, _, _, _, .cons q s, r, h1, h2 => by
    cases r with
    | cons q' s' =>
      obtain ⟨_, _, g1, g2, _⟩ := shDs_cons h1
      obtain ⟨_, _, k1, k2, _⟩ := shDs_cons h2
      simp only [dpDs]
      rw [Rep.dp1 O q q' g1 k1, Reps.dp1 O s s' g2 k2]
end
/-- the lists and dicts below -/
def Sm (G : Gx) (F : Hp) (o : Addr → Option Str) (n : Nat) (bs : List Addr) : Prop := ∀ b ∈ bs, ∃ d t, Rep G F (.ref b) d ∧ shD o d = some t ∧ dpD d ≤ n
theorem Sm.mono {n m : Nat} {bs : List Addr} (h : Sm G F o n bs) (l : n ≤ m) : Sm G F o m bs := fun b hb => let ⟨d, t, a1, a2, a3⟩ := h b hb; ⟨d, t, a1, a2, Nat.le_trans a3 l⟩
theorem Sm.app {n : Nat} {bs cs : List Addr} (h : Sm G F o n bs) (k : Sm G F o n cs) : Sm G F o n (bs ++ cs) := fun b hb => (List.mem_append.mp hb).elim (h b) (k b)
theorem Sm.not {n : Nat} {bs : List Addr} {a : Addr} {d : D} {t : Str} (O : OSh P w o F h) (z : Sm G F o n bs) (r : Rep G F (.ref a) d) (hs : shD o d = some t) (l : n < dpD d) : a ∉ bs := fun hb => by
  obtain ⟨d', t', a1, a2, a3⟩ := z a hb
  rw [← Rep.dp1 O r a1 hs a2] at a3
  omega
theorem Sm.nil {n : Nat} : Sm G F o n [] := fun b hb => by cases hb
theorem Sm.con {n : Nat} {bs : List Addr} {a : Addr} {d : D} {t : Str} (z : Sm G F o n bs) (r : Rep G F (.ref a) d) (hs : shD o d = some t) (l : dpD d ≤ n) : Sm G F o n (a :: bs) := fun b hb => by
  rcases List.mem_cons.mp hb with e | hb
  · subst e; exact ⟨d, t, r, hs, l⟩
  · exact z b hb
end
section
variable {X : Cx} {G : Gx} {F H : Hp} {pins : List (Addr × Obj)} {σ : L2.St} {s : Shared} {o : Addr → Option Str}
theorem dct_raw (I : Inv X pins σ H s) (e : Ext F H) {a : Addr} {od : Obj} {vs : List V} (q : DicAt G.w false (some od) F F a [] vs) : ∃ (ob : Obj) (es : Array DictEntry) (n : Nat), s.heap.get? a = some ob ∧ ob.cls = .type "dict" ∧ ob.data = .dict es n ∧ (a == sysModules) = false ∧ es.toList = [] := by
  obtain ⟨kvs, h1, h2, h3, _⟩ := q
  have hk : kvs = [] := List.map_eq_nil_iff.mp h2.symm
  subst hk
  obtain ⟨_, hs, us, kr, ob, es, ep, g1, g2, g3, g4⟩ := (Rd.ok (.inr ⟨od, e _ _ h1⟩) I.hok : ObjOk X.prog X.w H s.heap a (.dK []))
  cases kr
  exact ⟨ob, es, ep, g1, g2.1, g3, hs, List.length_eq_zero_iff.mp (by have := g4.2.1.length; simpa using this)⟩
mutual
theorem Rep.shK (I : Inv X pins σ H s) (e : Ext F H) (O : OSh X.prog X.w o F s.heap) : ∀ {v : V} {d : D} {t : Str} {u : Value}, Rep G F v d → shD o d = some t → RelV v u → t.length ≤ sizeLine → ∃ bs, Sm G F o (dpD d) bs ∧ ReprK X.prog X.w bs s.heap (dpD d) u t
  | _, _, _, _, .non, h, r, _ => by cases h; cases r; exact ⟨[], .nil, .of_is ReprIs.none _ _ _⟩
  | _, _, _, _, .bl b, h, r, _ => by cases h; cases r; exact ⟨[], .nil, .of_is (ReprIs.bool b) _ _ _⟩
  | _, _, _, _, .int i, h, r, _ => by
    obtain ⟨tk, rfl⟩ := r
    unfold shD at h
    split at h
    · rename_i hz
      cases h
      exact ⟨[], .nil, .of_is (ReprIs.int tk hz) _ _ _⟩
    · cases h
  | _, _, _, _, .str x, h, r, hz => by
    obtain ⟨tk, rfl⟩ := r
    cases h
    exact ⟨[], .nil, .of_is (ReprIs.str x tk hz) _ _ _⟩
  | _, _, _, _, .adr a, h, r, _ => by
    cases r
    exact ⟨[], .nil, O.k _ _ h⟩
  | _, _, _, _, .lst (a := a) q k, h, r, hz => by
    cases r
    have rr := Rep.lst (G := G) q k
    obtain ⟨ts, g1, rfl⟩ := shD_lst h
    obtain ⟨its, rv, ⟨ob, n, ho, hc, _, hd⟩, _⟩ := I.list (.of (e _ _ q))
    obtain ⟨bs, hb, hk⟩ := Reps.shK I e O k g1 rv fun t ht => Nat.le_trans (listText_mem_le ht) hz
    have hna : a ∉ bs := hb.not O rr h (by simp only [dpD]; omega)
    refine ⟨a :: bs, (hb.mono (by simp only [dpD]; omega)).con rr h (Nat.le_refl _), ?_⟩
    simp only [dpD]
    cases its with
    | nil =>
      have e0 := hk.length_eq
      cases ts with
      | nil => rw [listText_nil]; exact (ReprK.listEmpty ho hc (by simpa using hd))
      | cons _ _ => simp at e0
    | cons x l => exact ReprK.list ho hc hd hna (by simpa using hk.length_eq) (fun i y e => hk.item i y (by simpa using e))
  | _, _, _, _, .tup (a := a) q k, h, r, hz => by
    cases r
    have rr := Rep.tup (G := G) q k
    obtain ⟨ts, g1, rfl⟩ := shD_tup h
    obtain ⟨its, rv, ⟨ob, ho, hc, n, hd⟩, _⟩ := I.tuple (.of (e _ _ q))
    obtain ⟨bs, hb, hk⟩ := Reps.shK I e O k g1 rv fun t ht => Nat.le_trans (tupleText_mem_le ht) hz
    have hna : a ∉ bs := hb.not O rr h (by simp only [dpD]; omega)
    refine ⟨a :: bs, (hb.mono (by simp only [dpD]; omega)).con rr h (Nat.le_refl _), ?_⟩
    simp only [dpD]
    exact ReprK.tuple ho hc hd hna (by simpa using hk)
  | _, _, t, _, .dct (a := a) (b := b) (ks := ks) q k, h, r, hz => by
    cases r
    have rr := Rep.dct (G := G) q k
    have h' := h
    cases b with
    | true => unfold shD at h; cases h
    | false =>
      unfold shD at h
      have hk : ks = [] ∧ t = dictText [] := by
        split at h <;> first | (cases h; done) | skip
        all_goals (rename_i e1; first | (cases e1; done) | (cases e1; cases h; exact ⟨rfl, rfl⟩))
      obtain ⟨rfl, rfl⟩ := hk
      obtain ⟨ob, es, n, g1, g2, g3, g4, g5⟩ := dct_raw I e q
      refine ⟨[a], Sm.nil.con rr h' (Nat.le_refl _), ?_⟩
      exact ReprK.dict g1 g2 g3 g4 (by simp) (by rw [g5]; exact .nil)
  | _, _, _, _, .scr _ _, h, _, _ => by cases h
  | _, _, _, _, .ins _ _ _, h, _, _ => by cases h
  | _, _, _, _, .exc _ _ _, h, _, _ => by cases h
theorem Reps.shK (I : Inv X pins σ H s) (e : Ext F H) (O : OSh X.prog X.w o F s.heap) : ∀ {vs : List V} {ds : List D} {ts : List Str} {us : List Value}, Reps G F vs ds → shDs o ds = some ts → Vals vs us → (∀ t ∈ ts, t.length ≤ sizeLine) → ∃ bs, Sm G F o (dpDs ds) bs ∧ ReprAllK X.prog X.w bs s.heap (dpDs ds) us ts
  | _, _, _, _, .nil, h, r, _ => by
    cases r
    unfold shDs at h
    cases h
    exact ⟨[], .nil, .nil⟩
  | _, _, _, _, .cons q k, h, r, hz => by
    cases r with
    | cons r1 r2 =>
      obtain ⟨t, us, g1, g2, rfl⟩ := shDs_cons h
      obtain ⟨b1, hb1, k1⟩ := Rep.shK I e O q g1 r1 (hz _ List.mem_cons_self)
      obtain ⟨b2, hb2, k2⟩ := Reps.shK I e O k g2 r2 fun t ht => hz t (List.mem_cons_of_mem _ ht)
      refine ⟨b1 ++ b2, (hb1.mono (by simp only [dpDs]; omega)).app (hb2.mono (by simp only [dpDs]; omega)), ?_⟩
      simp only [dpDs]
      exact .cons ((k1.more fun b hb => List.mem_append_left _ hb).level_le (Nat.le_max_left _ _)) (k2.more_le (fun b hb => List.mem_append_right _ hb) (Nat.le_max_right _ _))
end
end
end VS

set_option Elab.async false
set_option linter.all false
set_option maxRecDepth 100000
set_option maxHeartbeats 4000000
namespace VS
open PySem PySem.Spec PyProof.Rows L2
/-! repr(e), e of any kind; {}; a text so many times; isinstance of dicts and exceptions -/
def gShow (o : Addr → Option Str) : GL
  | [.adr _] => none
  | [d] => match shD o d with
    | some t => if t.length ≤ LN ∧ dpD d ≤ 50 then some (.str t) else none
    | none => none
  | _ => none
def XShow (X : Cx) (o : Addr → Option Str) : Prop := ∀ (pins : List (Addr × Obj)) (σ : L2.St) (H F : Hp) (s : Shared), Inv X pins σ H s → Ext F H → OSh X.prog X.w o F s.heap
theorem XShow.no {X : Cx} : XShow X fun _ => none := fun _ _ _ _ _ _ _ => .no
section
variable {c : Ctx} {X : Cx} {o : Addr → Option Str}
theorem ca_show (O : XShow X o) (hgd : X.A.guards = some []) (hu : X.A.units + 100 < cLine) : CaD c X (.builtin "repr") (gShow o) := by
  intro pins s σ H xs us Q I r ⟨F, ds, d, e, rr, hg, q⟩
  unfold gShow at hg
  split at hg
  · cases hg
  · rename_i d0 hna
    split at hg
    · rename_i t ht
      split at hg
      · rename_i hc
        cases hg
        have hz : t.length ≤ sizeLine := ln_fit hc.1
        cases rr with
        | cons r1 r2 =>
          cases r2
          cases r with
          | cons u1 u2 =>
            cases u2
            rename_i u0
            have fin : ∀ (tk : Nat) (tt : Tok), EP X pins σ Q (.str t tt) { s with toks := tk } := fun tk tt => ⟨.str t, H, I.tok tk, ⟨_, rfl⟩, q.here e (.str _)⟩
            have fin2 : ∀ (h' : Heap) (tt : Tok) (tk : Nat), (∀ b o, s.heap.get? b = some o → h'.get? b = some o) → EP X pins σ Q (.str t tt) { s with heap := h', toks := tk } := fun h' tt tk k => ⟨.str t, H, I.kept k, ⟨_, rfl⟩, q.here e (.str _)⟩
            have O' := O pins σ H F s I e
            cases r1 with
            | non => cases u1; cases ht; exact PySem.P.repr_of_none (fin _ _)
            | bl b => cases u1; cases ht; exact PySem.P.repr_of_bool (fin _ _)
            | int i =>
              obtain ⟨tk, rfl⟩ := u1
              unfold shD at ht
              split at ht
              · rename_i hi
                cases ht
                exact PySem.P.repr_of_int hi (fin _ _)
              · cases ht
            | str x =>
              obtain ⟨tk, rfl⟩ := u1
              cases ht
              exact PySem.P.repr_of_str (fin _ _) hz
            | adr a => exact absurd rfl (hna a)
            | @lst a vs ds q1 k1 =>
              cases u1
              have rr := Rep.lst (G := c.G) q1 k1
              obtain ⟨ts, g1, rfl⟩ := shD_lst ht
              obtain ⟨its, rv, ⟨ob, n, ho, hc', _, hd⟩, _⟩ := I.list (.of (e _ _ q1))
              obtain ⟨bs, hb, hk⟩ := Reps.shK I e O' k1 g1 rv fun t ht => Nat.le_trans (listText_mem_le ht) hz
              have hna : a ∉ bs := hb.not O' rr ht (by simp only [dpD]; omega)
              have hdp : dpDs ds + 1 ≤ 50 := hc.2
              refine call_repr_slot (by omega) ⟨ob, ho, hc'⟩ PySem.F.slot_list_repr.toG ?_
              cases its with
              | nil =>
                have e0 := hk.length_eq
                cases ts with
                | nil =>
                  rw [listText_nil] at fin2
                  exact call_list_repr_empty ⟨ob, ho, hc'⟩ ho (by simpa using hd) ⟨_, _, rfl, fin2 s.heap _ _ fun _ _ e => e⟩
                | cons _ _ => simp at e0
              | cons x l => exact call_list_reprK ho hc' hd hna (by simpa using hk.length_eq) (fun i y e => hk.item i y (by simpa using e)) hgd (fun b _ => Clear.nil b) (by show X.A.units + 1 + (dpDs ds + 1) < cLine; omega) (fun _ _ e => e) (fun h' u tk k => ⟨_, _, rfl, fin2 h' u tk k⟩) hz
            | @tup a vs ds q1 k1 =>
              cases u1
              have rr := Rep.tup (G := c.G) q1 k1
              obtain ⟨ts, g1, rfl⟩ := shD_tup ht
              obtain ⟨its, rv, ⟨ob, ho, hc', n, hd⟩, _⟩ := I.tuple (.of (e _ _ q1))
              obtain ⟨bs, hb, hk⟩ := Reps.shK I e O' k1 g1 rv fun t ht => Nat.le_trans (tupleText_mem_le ht) hz
              have hna : a ∉ bs := hb.not O' rr ht (by simp only [dpD]; omega)
              have hdp : dpDs ds + 1 ≤ 50 := hc.2
              refine call_repr_slot (by omega) ⟨ob, ho, hc'⟩ PySem.F.slot_tuple_repr ?_
              exact call_tuple_reprK ho hc' hd hna hk hgd (fun b _ => Clear.nil b) (by show X.A.units + 1 + (dpDs ds + 1) < cLine; omega) (fun _ _ e => e) (fun h' u tk k => ⟨_, _, rfl, fin2 h' u tk k⟩) hz
            | @dct a b od ks vs ds q1 k1 =>
              cases u1
              cases b with
              | true => unfold shD at ht; cases ht
              | false =>
                unfold shD at ht
                have hk : ks = [] ∧ t = dictText [] := by
                  split at ht <;> first | (cases ht; done) | skip
                  all_goals (rename_i e1; first | (cases e1; done) | (cases e1; cases ht; exact ⟨rfl, rfl⟩))
                obtain ⟨rfl, rfl⟩ := hk
                obtain ⟨ob, es, n, g1, g2, g3, g4, g5⟩ := dct_raw I e q1
                refine call_repr_slot (by omega) ⟨ob, g1, g2⟩ PySem.F.slot_dict_repr ?_
                exact call_dict_reprK (as := []) (d := 0) g1 g2 g3 g4 (by simp) (by rw [g5]; exact .nil) hgd (fun b _ => Clear.nil b) (by show X.A.units + 1 + (0 + 1) < cLine; omega) (fun _ _ e => e) (fun h' u tk k => ⟨_, _, rfl, fin2 h' u tk k⟩) hz
            | scr _ _ => cases ht
            | ins _ _ _ => cases ht
            | exc _ _ _ => cases ht
      · cases hg
    · cases hg
  · cases hg
/-! {} -/
def tEmpD : TE := fun _ H Q => ∀ p, H p = none → Q (.ref p) (upd H p (.frz { cls := .type "dict", data := .dict #[] } (.dK [])))
theorem pe_empD {pos : Pos} : PE X (.Dict [] [] pos) tEmpD := ⟨fun pins s σ H Q I h =>
  wpAny_Dict_empty ⟨.ref s.heap.objs.size, _, I.laid (a := s.heap.objs.size) (o := .frz { cls := .type "dict", data := .dict #[] } (.dK [])) (t' := s.toks) (fun _ _ q => Heap.get?_push_of_some _ q) (Nat.le_refl _)
    ⟨Heap.get?_push_size _ rfl, dk_empty s.heap I.big⟩, rfl, h _ (I.hok.fresh (Nat.le_refl _))⟩⟩
theorem ve_empD {pos : Pos} : PE X (.Dict [] [] pos) (vt c (sK (.dct false [] []))) := pe_of pe_empD fun σ H Q ⟨F, ρ, I, d, ρ', e, q⟩ p hp => by
  cases e
  have g := Grow.new (o := .frz { cls := .type "dict", data := .dict #[] } (.dK [])) I.fh hp
  exact q _ _ _ g.f (I.grow g) (.dct ⟨[], upd_same, rfl, rfl, Nat.zero_le _⟩ .nil)
/-! a text so many times -/
def repS (x : Str) (k : Int) : Str := if k < 1 then Str.empty else if (k == 1 || x.length == 0) = true then x else ⟨(List.replicate k.toNat x.cps).foldl (· ++ ·) #[]⟩
def gRepS : G2
  | .str x, .int k => if x.length ≤ 100 ∧ k ≤ 1000 ∧ -1000 ≤ k ∧ (repS x k).length ≤ LN then some (.str (repS x k)) else none
  | _, _ => none
theorem od_repS : OpD c X (binaryOp .Mult) gRepS := by
  intro pins s σ H x y v u Q I rx ry ⟨F, a, b, d, e, ra, rb, hg, q⟩
  unfold gRepS at hg
  split at hg
  · rename_i z k
    split at hg
    · rename_i h
      cases hg
      cases ra
      cases rb
      obtain ⟨t, rfl⟩ := rx
      obtain ⟨t', rfl⟩ := ry
      obtain ⟨h1, h2, h3, h4⟩ := h
      refine PySem.P.mul_str (by
        have z1 : ¬ k < -(2 ^ 63 : Int) := by omega
        have z2 : ¬ k ≥ 2 ^ 63 := by omega
        rw [decide_eq_false z1, decide_eq_false z2]; rfl) (fun k1 _ => ?_) (fun k1 _ => ?_) ?_
      · have z3 : (1000 : Int) ≤ (2 ^ 63 - 1) / k := by
          exact Int.le_ediv_of_mul_le (by omega) (by omega)
        omega
      · unfold Builtin.Str.tooLong
        have : z.length * k.toNat ≤ 100 * 1000 := Nat.mul_le_mul h1 (by omega)
        have hs := sizeLine_eq
        simp only [decide_eq_false_iff_not]
        omega
      · unfold repS at q h4
        by_cases k1 : k < 1
        · rw [if_pos k1] at q h4 ⊢
          exact ⟨ln_fit h4, .str _, H, I.tok _, ⟨_, rfl⟩, q.here e (.str _)⟩
        · rw [if_neg k1] at q h4 ⊢
          by_cases k2 : (k == 1 || z.length == 0) = true
          · rw [if_pos k2] at q h4 ⊢
            exact ⟨.str _, H, I, ⟨_, rfl⟩, q.here e (.str _)⟩
          · rw [if_neg k2] at q h4 ⊢
            exact ⟨ln_fit h4, .str _, H, I.tok _, ⟨_, rfl⟩, q.here e (.str _)⟩
    · cases hg
  · cases hg
/-! isinstance -/
def gIsTy2 (T : Nat) : G1
  | .dct false _ _ => some (.bl false)
  | d => gIsTy T d
theorem isTy2_rule (T : Nat) (hT : T < 5) {F H : Hp} {x : V} {d r : D} (e : Ext F H) (h : Rep c.G F x d) (hg : gIsTy2 T d = some r) : ∃ t b, TyX X.K H x t ∧ PySem.W.kitOne X.K t (.type (tyName T)) = some b ∧ r = .bl b := by
  unfold gIsTy2 at hg
  split at hg
  · cases hg
    cases h with
    | dct q _ =>
      obtain ⟨kvs, q1, _⟩ := dct_fz q
      refine ⟨_, false, .fDict (e _ _ q1), ?_, rfl⟩
      match T, hT with
      | 0, _ => exact kit_ty (by decide +kernel)
      | 1, _ => exact kit_ty (by decide +kernel)
      | 2, _ => exact kit_ty (by decide +kernel)
      | 3, _ => exact kit_ty (by decide +kernel)
      | 4, _ => exact kit_ty (by decide +kernel)
  · exact isTy_rule T hT e h hg
theorem ve_isTy2 {e : Expr} {x : Str} {s : SE} {p p2 pos : Pos} (T : Nat) (hT : T < 5) (hm : X.mg "isinstance" = none) (he : PE X e (vt c s)) (hm2 : X.mg x = none) (hv2 : bootBuiltins x = some (.type (tyName T))) (hg : Gl X "isinstance" := by rfl) (hg2 : Gl X x := by rfl)
    (n2 : x ≠ "__name__" := by decide) (d2 : (x == ("__debug__" : Str)) = false := by decide)
    (h1 : starEach [e, .Name x p2] X.env = (false, eval e X.env) :: starEach [.Name x p2] X.env := by rfl) (h2 : starEach [.Name x p2] X.env = (false, eval (.Name x p2) X.env) :: starEach [] X.env := by rfl)
    (hpl : (backTo pos (starEach [.Name x p2] X.env)).any (·.1) = false := by rfl) :
    PE X (.Call (.Name "isinstance" p) [e, .Name x p2] [] pos) (vt c (s1 (gIsTy2 T) s)) := by
  refine pe_of (pe_callB call_isi hg hm (by decide +kernel) (pa_cons he (pa_cons (pe_bltn (v := .ty (tyName T)) hg2 hm2 hv2 rfl n2 d2) pa_nil h2) h1) (by decide) (by decide) h1 hpl) fun σ H Q ⟨F, ρ, I, d, ρ', e, q⟩ => ?_
  obtain ⟨y, e1, e2⟩ := s1_inv e
  refine ⟨F, ρ, I, y, ρ', e1, fun v H1 F1 x1 I1 r1 => ?_⟩
  obtain ⟨t, b, g1, g2, g3⟩ := isTy2_rule (X := X) T hT I1.fh r1 e2
  subst g3
  exact ⟨v, .ty (tyName T), t, _, b, rfl, .ty _, g1, g2, q _ _ _ x1 I1 (.bl _)⟩
/-- of an exception, by a class of one's own -/
theorem ve_isXC {e : Expr} {x : Str} {s : SE} {p p2 pos : Pos} {tab : List (Nat × Bool)} {C : Addr} (T : XiAll c.G.K c.G (.ref C) tab) (hK : X.K = c.G.K) (hm : X.mg "isinstance" = none) (he : PE X e (vt c s)) (hm2 : X.mg x = some (.ref C)) (hg : Gl X "isinstance" := by rfl) (hg2 : Gl X x := by rfl)
    (d2 : (x == ("__debug__" : Str)) = false := by decide)
    (h1 : starEach [e, .Name x p2] X.env = (false, eval e X.env) :: starEach [.Name x p2] X.env := by rfl) (h2 : starEach [.Name x p2] X.env = (false, eval (.Name x p2) X.env) :: starEach [] X.env := by rfl)
    (hpl : (backTo pos (starEach [.Name x p2] X.env)).any (·.1) = false := by rfl) :
    PE X (.Call (.Name "isinstance" p) [e, .Name x p2] [] pos) (vt c (s1 (gIsX tab) s)) :=
  ve_isX T hK hm he (pe_glob (v := .ref C) hg2 hm2 rfl d2) (fun _ z => z) hg h1 h2 hpl
/-- of an exception, by ValueError -/
theorem ve_isXV {e : Expr} {s : SE} {p p2 pos : Pos} {tab : List (Nat × Bool)} (T : XiAll c.G.K c.G (.type "ValueError") tab) (hK : X.K = c.G.K) (hm : X.mg "isinstance" = none) (he : PE X e (vt c s)) (hm2 : X.mg "ValueError" = none) (hg : Gl X "isinstance" := by rfl) (hg2 : Gl X "ValueError" := by rfl)
    (h1 : starEach [e, .Name "ValueError" p2] X.env = (false, eval e X.env) :: starEach [.Name "ValueError" p2] X.env := by rfl) (h2 : starEach [.Name "ValueError" p2] X.env = (false, eval (.Name "ValueError" p2) X.env) :: starEach [] X.env := by rfl)
    (hpl : (backTo pos (starEach [.Name "ValueError" p2] X.env)).any (·.1) = false := by rfl) :
    PE X (.Call (.Name "isinstance" p) [e, .Name "ValueError" p2] [] pos) (vt c (s1 (gIsX tab) s)) :=
  ve_isX T hK hm he (pe_bltn (v := .ty "ValueError") hg2 hm2 (by decide +kernel) rfl (by decide) (by decide)) (fun _ z => z) hg h1 h2 hpl
end
end VS

set_option Elab.async false
set_option linter.all false
set_option maxRecDepth 100000
set_option maxHeartbeats 4000000
namespace VS
open PySem PySem.Spec PyProof.Rows L2
/-! what is asked of the written part, for exceptions as data -/
/-- how such an __init__ binds -/
def SupBinds (st : Stmt) (qual : Str) (args : Args) (r : List (Str × Value)) : Prop := ∀ (T cc : Addr) (kV doc pm ct cdv : Value) (an : Option Addr), ∃ k : Option (Array Value) → Sem (List (Str × Value)),
  bindArgs (PySem.W.fnX "__init__" qual (defArgs st) (defBody st) (defScope st) [("__class__", cc)] (.ref T) kV doc pm an cdv ct) args = seqItems? (.ref T) >>= k ∧ k (some #[.none]) = pure r
theorem ve_isXE {c : Ctx} {X : Cx} {e : Expr} {x : Str} {s : SE} {p p2 pos : Pos} {tab : List (Nat × Bool)} (T : ∃ C, X.mg x = some (.ref C) ∧ XiAll c.G.K c.G (.ref C) tab) (hK : X.K = c.G.K) (hm : X.mg "isinstance" = none) (he : PE X e (vt c s)) (hg : Gl X "isinstance" := by rfl) (hg2 : Gl X x := by rfl)
    (d2 : (x == ("__debug__" : Str)) = false := by decide)
    (h1 : starEach [e, .Name x p2] X.env = (false, eval e X.env) :: starEach [.Name x p2] X.env := by rfl) (h2 : starEach [.Name x p2] X.env = (false, eval (.Name x p2) X.env) :: starEach [] X.env := by rfl)
    (hpl : (backTo pos (starEach [.Name x p2] X.env)).any (·.1) = false := by rfl) :
    PE X (.Call (.Name "isinstance" p) [e, .Name x p2] [] pos) (vt c (s1 (gIsX tab) s)) := by
  obtain ⟨C, h3, h4⟩ := T
  exact ve_isXC h4 hK hm he h3 hg hg2 d2 h1 h2 hpl
theorem calE_mk {P : Program} {G : Gx} {mg : Str → Option Value} {x qual : Str} {st : Stmt} {C f T cda cc : Addr} {oc : Value} {od an : Option Addr} {osl : Array (Option Value)} {kV doc pm ct : Value} {ccl : Value} {cdd : Option Addr} {vs : Array Value} {ccs : Array (Option Value)} {file : Str} {tf : Tok} {cl : Value} {cld : Option Addr} {csl : Array (Option Value)}
    {nm q : Str} {N : Addr} {bs bm : List Value} {sn : List Str} {sub : List Value} {ab : Bool} {col : Option Bool} {dd : Option Addr} {k0 k1 k2 k3 k5 : Option Value} {tc : Value} {td : Option Addr} {tn : Nat} {ts : Array (Option Value)} (k : Nat) (hk : G.cls k = C)
    (S : SupShape st) (B1 : ∀ a v : Value, SupBinds st qual ⟨[a, v], []⟩ [("self", a), ("value", v)]) (B2 : ∀ a v : Value, SupBinds st qual ⟨[a], [("value", v)]⟩ [("self", a), ("value", v)]) (B3 : ∀ a : Value, SupBinds st qual ⟨[a], []⟩ [("self", a), ("value", .none)]) (gm : mg x = some (.ref C)) (ms : mg "super" = none)
    (lk : G.K.lookup f = some ⟨oc, od, .func (PySem.W.fnX "__init__" qual (defArgs st) (defBody st) (defScope st) [("__class__", cc)] (.ref T) kV doc pm an (.ref cda) ct), osl⟩) (cd : PySem.W.codeIn G.K (.ref cda) qual = true)
    (lc : G.K.lookup cda = some ⟨ccl, cdd, .fields vs, ccs⟩) (lv2 : vs[2]? = some (.str file tf)) (lf : ((P.main.file : Str) == file) = true) (le : G.K.lookup cc = some ⟨cl, cld, .cell (some (.ref C)), csl⟩)
    (lt : G.K.lookup T = some ⟨tc, td, .seq #[.none] tn, ts⟩) (top : (P.main.scope.names.lookup ("super" : Str)).isSome = false)
    (lC : G.K.lookup C = some (excClassObj nm q C N bs bm true sn sub ab col dd k0 k1 k2 k3 k5 "ValueError.__new__")) (hbm : PySem.HandSPX.refsVE bm = true)
    (sa : PySem.W.findIn G.K (.ref C) "__setattr__" = some (some (.builtin "object.__setattr__"))) (exC : PySem.W.subIn G.K (.ref C) (.type "BaseException") = some true) (tyC : PySem.W.typeIn G.K (.ref C) = some (.type "type")) (kC : PySem.W.keepIn G.K (.ref C) = true)
    (sup : PySem.W.ks_superIn G.K C C "__init__" = some (some (.builtin "ValueError.__init__"))) (opq : PySem.W.nsIn G.K cStatics "thirdparty.any" = some none) (va : PySem.W.findIn G.K (.ref C) "value" = some none)
    (ini : PySem.W.findIn G.K (.ref C) "__init__" = some (some (.ref f))) (tyf : PySem.W.typeIn G.K (.ref f) = some (.type "function")) (mro : PySem.W.mroIn G.K C (.ref C) = some true) (sb : PySem.W.subIn G.K (.ref C) (.type "ValueError") = some true) : CalE P G mg x k := by
  have bd : ∀ (args : Args) (r : List (Str × Value)), SupBinds st qual args r → ∀ s : Shared, G.K.In s.heap → BindsTo s (PySem.W.fnX "__init__" qual (defArgs st) (defBody st) (defScope st) [("__class__", cc)] (.ref T) kV doc pm an (.ref cda) ct) args r := fun args r B s Y => by
    obtain ⟨k', e1, e2⟩ := B T cc kV doc pm ct (.ref cda) an
    exact PySem.W.binds_K Y rfl lt rfl e1 e2
  subst hk
  refine ⟨f, _, ⟨⟨oc, od, osl, lk⟩, ?_, top, ⟨⟨nm, q, N, bs, bm, sn, sub, ab, col, dd, k0, k1, k2, k3, k5, lC, hbm⟩, sa, exC, tyC, kC⟩, sup, opq, va, ini, tyf, mro, sb⟩, kC, gm, ms, fun s a v Y => bd _ _ (B1 a v) s Y, fun s a v Y => bd _ _ (B2 a v) s Y, fun s a Y => bd _ _ (B3 a) s Y⟩
  obtain ⟨p0, p1, p2, p3, p4, p5, q1, q2, q3, q4, eb, h24⟩ := S.body
  obtain ⟨ar, h1, h2⟩ := S.par
  exact ⟨qual, defArgs st, p0, p1, p2, p3, p4, p5, q1, q2, q3, q4, defScope st, .ref T, kV, doc, pm, ct, an, cda, cc, ar, by rw [eb], cd, h1, h2, h24, S.ls, S.lv, S.lsu, S.lcl, S.nc, S.co, S.gen, S.kind, ⟨ccl, cdd, vs, ccs, file, tf, lc, lv2, lf⟩, cl, cld, csl, le⟩
/-- tables of isinstance, entry by entry -/
theorem xi_nil {K : PySem.W.Frag} {G : Gx} {cv : Value} : XiAll K G cv [] := fun k b h => by cases h
theorem xi_cons {K : PySem.W.Frag} {G : Gx} {cv : Value} {k : Nat} {b : Bool} {tab : List (Nat × Bool)} (E : ExcC K (G.cls k)) (h : PySem.W.kitOne K (.ref (G.cls k)) cv = some b) (r : XiAll K G cv tab) : XiAll K G cv ((k, b) :: tab) := fun k' b' e => by
  rw [List.lookup_cons] at e
  by_cases z : (k' == k) = true
  · rw [z] at e
    cases e
    have : k' = k := by simpa using z
    subst this
    exact ⟨E, h⟩
  · have z' : (k' == k) = false := by simpa using z
    rw [z'] at e
    exact r k' b' e
theorem xv_nil {K : PySem.W.Frag} {G : Gx} : XvAll K G [] := fun k h => by cases h
theorem xv_cons {K : PySem.W.Frag} {G : Gx} {k : Nat} {ks : List Nat} (h1 : XfC K (G.cls k)) (h2 : PySem.W.findIn K (.ref (G.cls k)) "value" = some none) (r : XvAll K G ks) : XvAll K G (k :: ks) := fun k' h => by
  rcases List.mem_cons.mp h with e | h
  · subst e; exact ⟨h1, h2⟩
  · exact r k' h
end VS

set_option Elab.async false
set_option linter.all false
set_option maxRecDepth 100000
set_option maxHeartbeats 4000000
namespace VS
open PySem PySem.Spec PyProof.Rows L2
/-! name = a + b, two lists: a list of one's own -/
def kOwnAdd (i : Nat) (a b : SE) : SS := fun ρ => match a ρ with
  | some (.lst xs, ρ1) => match b ρ1 with
    | some (.lst ys, ρ2) => if xs.length + ys.length ≤ LN then some (.nx, ρ2.set i (.own (xs ++ ys))) else none
    | _ => none
  | _ => none
section
variable {c : Ctx} {X : Cx}
theorem vs_ownAdd {i : Nat} {x : Str} {ea eb : Expr} {a b : SE} {p1 pos pos' : Pos} (hN : X.N.Nodup) (ha : PE X ea (vt c a)) (hb : PE X eb (vt c b)) (hi : X.N[i]? = some x := by rfl) (hx : Loc X.env.scope x := by first | exact Or.inl rfl | exact Or.inr rfl)
    (hs : swapsWith (.BinOp ea .Add eb p1) (some (.Name x pos')) pos.line X.env = pure false := by rfl) (hf : X.fn x = true ∨ X.env.scope.names.lookup x = some .local := by first | exact .inl rfl | exact .inr rfl) :
    PS X (.Assign [.Name x pos'] (.BinOp ea .Add eb p1) pos) (vs c (kOwnAdd i a b)) :=
  ps_of (ps_set hN hi hx (pe_op op_cat ha hb) hs hf) fun σ H E ⟨F, ρ, I, fl, ρ', e, q⟩ => by
    unfold kOwnAdd at e
    split at e
    · rename_i xs ρ1 e1
      split at e
      · rename_i ys ρ2 e2
        split at e
        · rename_i hl
          cases e
          refine ⟨F, ρ, I, .lst xs, ρ1, e1, fun v H1 F1 x1 I1 r1 => ⟨F1, ρ1, I1, .lst ys, ρ2, e2, fun w H2 F2 x2 I2 r2 => ?_⟩⟩
          have r1' := r1.ext x2
          cases r1' with
          | lst g1 s1 =>
            cases r2 with
            | lst g2 s2 => exact ⟨_, _, _, _, rfl, rfl, I2.fh _ _ g1, I2.fh _ _ g2, by rw [s1.length, s2.length]; exact ln_fit hl, fun p hp => q _ _ _ (x1.trans x2) (I2.fresh hp (s1.append s2) i)⟩
        · cases e
      · cases e
    · cases e
end
end VS

set_option Elab.async false
set_option linter.all false
set_option maxRecDepth 100000
set_option maxHeartbeats 4000000
namespace VS
open PySem PySem.Spec PyProof.Rows L2
/-! a law's end by hand: contexts chosen anew; lists that others hold, changed in place -/
def vsQ (G : Gx) (m : SS) : TS := fun E σ H => ∃ c : Ctx, c.G = G ∧ vs c m E σ H
def vbQ (G : Gx) (m : SB) : TT := fun σ H Q => ∃ c : Ctx, c.G = G ∧ vb c m σ H Q
def vtQ (G : Gx) (m : SE) : TE := fun σ H Q => ∃ c : Ctx, c.G = G ∧ vt c m σ H Q
section
variable {X : Cx} {G : Gx}
theorem ps_x {st : Stmt} {m : SS} (hh : ∀ c : Ctx, c.G = G → PS X st (vs c m)) : PS X st (vsQ G m) := ⟨fun pins s σ H Q I ⟨c0, hc, q⟩ => (hh c0 hc).run pins s σ H Q I q⟩
theorem pss_x {st : List Stmt} {m : SS} (hh : ∀ c : Ctx, c.G = G → PSs X st (vs c m)) : PSs X st (vsQ G m) := ⟨fun pins s σ H Q I ⟨c0, hc, q⟩ => (hh c0 hc).run pins s σ H Q I q⟩
theorem pt_x {e : Expr} {m : SB} (hh : ∀ c : Ctx, c.G = G → PT X e (vb c m)) : PT X e (vbQ G m) := ⟨fun pins s σ H Q I ⟨c0, hc, q⟩ => (hh c0 hc).run pins s σ H Q I q⟩
theorem pe_x {e : Expr} {m : SE} (hh : ∀ c : Ctx, c.G = G → PE X e (vt c m)) : PE X e (vtQ G m) := ⟨fun pins s σ H Q I ⟨c0, hc, q⟩ => (hh c0 hc).run pins s σ H Q I q⟩
end
/-! slots told in another way -/
theorem Ok.conv {c : Ctx} {F H : Hp} {σ : L2.St} {ρ ρ' : Rho} (I : Ok c F H σ ρ) (len : ρ'.length = ρ.length) (h : ∀ (i : Nat) s', ρ'[i]? = some s' → s' = .no ∨ ∃ s, ρ[i]? = some s ∧ (s'.mut = true → s.mut = true) ∧ ∀ ov, σ[i]? = some ov → SlOk c F H ov s → SlOk c F H ov s') : Ok c F H σ ρ' where
  len := I.len.trans len.symm
  f0 := I.f0
  fh := I.fh
  fr := I.fr
  al := I.al
  n0 := I.n0
  sl := fun i s' e => by
    rcases h i s' e with z | ⟨s, h1, h2, h3⟩
    · subst z
      have hl : i < ρ'.length := (List.getElem?_eq_some_iff.mp e).1
      have hs : i < σ.length := by rw [I.len, ← len]; exact hl
      refine ⟨σ[i], by rw [List.getElem?_eq_getElem hs], ?_⟩
      cases σ[i] <;> trivial
    · obtain ⟨ov, k1, k2⟩ := I.sl i s h1
      exact ⟨ov, k1, h3 ov k1 k2⟩
  ap := fun i j s t p q hi hj ms mt h1 h2 e => by
    rcases h i s hi with z | ⟨s0, a1, a2, a3⟩
    · subst z; cases ms
    · rcases h j t hj with z | ⟨t0, b1, b2, b3⟩
      · subst z; cases mt
      · exact I.ap i j s0 t0 p q a1 b1 (a2 ms) (b2 mt) h1 h2 e
  hb := I.hb
  tb := I.tb
/-! a list is taken out of the data -/
def rm1 (p : Addr) (F : Hp) : Hp := fun b => if b = p then none else F b
theorem rm1_same {p : Addr} {F : Hp} : rm1 p F p = none := if_pos rfl
theorem rm1_ne {p b : Addr} {F : Hp} (h : b ≠ p) : rm1 p F b = F b := if_neg h
theorem rm1_ext {p : Addr} {F : Hp} : Ext (rm1 p F) F := fun b o e => by
  by_cases z : b = p
  · subst z; rw [rm1_same] at e; cases e
  · rw [rm1_ne z] at e; exact e
mutual
/-- no list of n things within -/
def noL (n : Nat) : D → Bool
  | .lst ds => (ds.length != n) && noLs n ds
  | .tup ds => noLs n ds
  | .ins _ ds => noLs n ds
  | .exc _ d => noL n d
  | .scr _ => false
  | .dct _ _ _ => false
  | _ => true
def noLs (n : Nat) : List D → Bool
  | [] => true
  | d :: ds => noL n d && noLs n ds
end
mutual
theorem Rep.rm {G : Gx} {F : Hp} {p : Addr} {us : List V} (hp : F p = some (.lst us)) : ∀ {v : V} {d : D}, Rep G F v d → noL us.length d = true → Rep G (rm1 p F) v d
  | _, _, .non, _ => .non
  | _, _, .bl b, _ => .bl b
  | _, _, .int i, _ => .int i
  | _, _, .str x, _ => .str x
  | _, _, .adr a, _ => .adr a
  | _, _, .lst (a := a) h r, z => by
    simp only [noL, Bool.and_eq_true] at z
    have ne : a ≠ p := fun e => by
      subst e
      rw [hp] at h
      cases h
      have := r.length
      rw [this] at z
      simp at z
    exact .lst (by rw [rm1_ne ne]; exact h) (Reps.rm hp r z.2)
  | _, _, .tup (a := a) h r, z => by
    have ne : a ≠ p := fun e => by subst e; rw [hp] at h; cases h
    exact .tup (by rw [rm1_ne ne]; exact h) (Reps.rm hp r z)
  | _, _, .ins (a := a) h n r, z => by
    have ne : a ≠ p := fun e => by subst e; rw [hp] at h; cases h
    exact .ins (by rw [rm1_ne ne]; exact h) n (Reps.rm hp r z)
  | _, _, .exc (a := a) (dx := dx) h h2 r, z => by
    have ne : a ≠ p := fun e => by subst e; rw [hp] at h; cases h
    have ne2 : dx ≠ p := fun e => by subst e; rw [hp] at h2; cases h2
    exact .exc (by rw [rm1_ne ne]; exact h) (by rw [rm1_ne ne2]; exact h2) (Rep.rm hp r z)
  | _, _, .scr _ _, z => by cases z
  | _, _, .dct _ _, z => by cases z
theorem Reps.rm {G : Gx} {F : Hp} {p : Addr} {us : List V} (hp : F p = some (.lst us)) : ∀ {vs : List V} {ds : List D}, Reps G F vs ds → noLs us.length ds = true → Reps G (rm1 p F) vs ds
  | _, _, .nil, _ => .nil
  | _, _, .cons h r, z => by
    simp only [noLs, Bool.and_eq_true] at z
    exact .cons (Rep.rm hp h z.1) (Reps.rm hp r z.2)
end
theorem Rep.rm_upd {G : Gx} {F : Hp} {p : Addr} {us : List V} {o : HO} {v : V} {d : D} (hp : F p = some (.lst us)) (r : Rep G F v d) (z : noL us.length d = true) : Rep G (upd F p o) v d :=
  (Rep.rm hp r z).ext fun b u e => by
    by_cases y : b = p
    · subst y; rw [rm1_same] at e; cases e
    · rw [rm1_ne y] at e; rw [upd_ne y]; exact e
theorem Reps.rm_upd {G : Gx} {F : Hp} {p : Addr} {us : List V} {o : HO} {vs : List V} {ds : List D} (hp : F p = some (.lst us)) (r : Reps G F vs ds) (z : noLs us.length ds = true) : Reps G (upd F p o) vs ds :=
  (Reps.rm hp r z).ext fun b u e => by
    by_cases y : b = p
    · subst y; rw [rm1_same] at e; cases e
    · rw [rm1_ne y] at e; rw [upd_ne y]; exact e
/-- a list of the data has changed: a context anew -/
theorem Ok.chgd {c : Ctx} {F H : Hp} {σ : L2.St} {ρ ρ' : Rho} {p : Addr} {us ws : List V} (I : Ok c F H σ ρ) (hF : F p = some (.lst us)) (len : ρ'.length = ρ.length)
    (h : ∀ (j : Nat) s', ρ'[j]? = some s' → s' = .no ∨ ∃ d v, s' = .val d ∧ σ[j]? = some (some v) ∧ Rep c.G (upd F p (.lst ws)) v d) : Ok ⟨c.G, upd F p (.lst ws), upd H p (.lst ws), []⟩ (upd F p (.lst ws)) (upd H p (.lst ws)) σ ρ' where
  len := I.len.trans len.symm
  f0 := Ext.rfl'
  fh := fun b o e => by
    by_cases z : b = p
    · subst z; rw [upd_same] at e ⊢; exact e
    · rw [upd_ne z] at e ⊢; exact I.fh _ _ e
  fr := fun q o e _ _ => e
  al := fun q o e => ⟨o, e⟩
  n0 := fun q o _ n => n
  sl := fun j s' e => by
    have hl : j < ρ'.length := (List.getElem?_eq_some_iff.mp e).1
    have hs : j < σ.length := by rw [I.len, ← len]; exact hl
    rcases h j s' e with z | ⟨d, v, z, h1, h2⟩
    · subst z
      refine ⟨σ[j], by rw [List.getElem?_eq_getElem hs], ?_⟩
      cases σ[j] <;> trivial
    · subst z
      exact ⟨some v, h1, h2⟩
  ap := fun a b s t p' q' ha hb ms mt _ _ _ => by
    rcases h a s ha with z | ⟨d, v, z, _, _⟩ <;> subst z <;> cases ms
  hb := fun q hq => by cases hq
  tb := ⟨tabs_upd I.tb.t (I.fh _ _ hF) nt_lst nc_lst, fun q hq => by
    have n := I.tb.n q hq
    by_cases z : q.1 = p
    · rw [z, hF] at n; cases n
    · rw [upd_ne z]; exact n⟩
/-- slots of values stay told as they were -/
theorem Ok.back {c : Ctx} {F H F' H' : Hp} {σ : L2.St} {ρ ρ' : Rho} (I : Ok c F H σ ρ) (J : Ok c F' H' σ ρ') (e : Ext F F') (h : ∀ (i : Nat) s, ρ[i]? = some s → s = .no ∨ ∃ d, s = .val d) : Ok c F' H' σ ρ where
  len := I.len
  f0 := J.f0
  fh := J.fh
  fr := J.fr
  al := J.al
  n0 := J.n0
  sl := fun i s k => by
    obtain ⟨ov, h1, h2⟩ := I.sl i s k
    refine ⟨ov, h1, ?_⟩
    rcases h i s k with z | ⟨d, z⟩
    · subst z; cases ov <;> trivial
    · subst z
      cases ov with
      | none => exact h2.elim
      | some v => exact Rep.ext e h2
  ap := I.ap
  hb := J.hb
  tb := J.tb
/-- name.append(a text), whoever holds the list -/
def tAppR (i : Nat) (x : Str) : TS := fun E σ H => ∃ p us, σ[i]? = some (some (V.ref p)) ∧ H p = some (.lst us) ∧ us.length < sizeLine ∧ E.nx σ (upd H p (.lst (us ++ [.str x])))
theorem ps_appR {X : Cx} {i j : Nat} {x y : Str} {p0 cp apos cpos pos : Pos} (h : PE X (.Name x p0) (tVar i))
    (hbase : attributeBase (.Name x p0) "append" X.env (eval (.Name x p0) X.env) = eval (.Name x p0) X.env := by rfl)
    (hfew : ((backTo cpos (starEach [Expr.Constant (.str y) j cp] X.env)).all (fun x => !x.1) && (backToKw cpos (keywordEach [] X.env)).all (fun x => x.1.isSome)
      && decide ([Expr.Constant (.str y) j cp].length + ([] : List Keyword).length + (if ([] : List Keyword).isEmpty then 0 else 1) < 30)) = true := by rfl)
    (hline : (apos.endLine == cpos.line) = true := by rfl) (hst : starEach [Expr.Constant (.str y) j cp] X.env = (false, eval (.Constant (.str y) j cp) X.env) :: starEach [] X.env := by rfl) (hpl : (backTo cpos (starEach [] X.env)).any (·.1) = false := by rfl)
    (hs : swapsWith (.Call (.Attribute (.Name x p0) "append" apos) [.Constant (.str y) j cp] [] cpos) none pos.line X.env = pure false := by rfl) :
    PS X (.Expr (.Call (.Attribute (.Name x p0) "append" apos) [.Constant (.str y) j cp] [] cpos) pos) (tAppR i y) :=
  ps_of (ps_expr (pe_bm PySem.F.plainAttrs_list PySem.F.slot_list_append PySem.F.type_list_append (id := "list.append") (fun pins s σ H x xs v us Q I rx rv q => mt_append pins s σ H x xs v us Q I rx rv q) h (pa_cons pe_str pa_nil hst) hbase hfew hline hst hpl) hs) fun σ H E ⟨p, us, h1, h2, h3, q⟩ =>
    ⟨_, h1, .inl ⟨rfl, _, .of h2⟩, _, us, _, rfl, rfl, h2, h3, q⟩
end VS

set_option Elab.async false
set_option linter.all false
set_option maxRecDepth 100000
set_option maxHeartbeats 8000000
namespace Toy
open PySem PySem.Spec PyProof.Rows L2 VS
def top (i : Nat) : Stmt := PySem.Challenge.pw_agedreads_k01_errors_made.main.body.getD i (.Pass ⟨0, 0, 0, 0⟩)
def xi_InvalidStep : List (Nat × Bool) := [(0, true), (1, false), (2, false), (3, false), (4, false), (5, false), (6, false), (7, false)]
def xi_InvalidNet : List (Nat × Bool) := [(0, false), (1, true), (2, false), (3, false), (4, false), (5, false), (6, false), (7, false)]
def xi_InvalidPhases : List (Nat × Bool) := [(0, false), (1, false), (2, true), (3, false), (4, false), (5, false), (6, false), (7, false)]
def xi_InvalidPath : List (Nat × Bool) := [(0, false), (1, false), (2, false), (3, true), (4, false), (5, false), (6, false), (7, false)]
def xi_InvalidName : List (Nat × Bool) := [(0, false), (1, false), (2, false), (3, false), (4, true), (5, false), (6, false), (7, false)]
def xi_InvalidNames : List (Nat × Bool) := [(0, false), (1, false), (2, false), (3, false), (4, false), (5, true), (6, false), (7, false)]
def xi_InvalidNumber : List (Nat × Bool) := [(0, false), (1, false), (2, false), (3, false), (4, false), (5, false), (6, true), (7, false)]
def xi_InvalidSet : List (Nat × Bool) := [(0, false), (1, false), (2, false), (3, false), (4, false), (5, false), (6, false), (7, true)]
def xi_AgedReadsError : List (Nat × Bool) := [(0, true), (1, true), (2, true), (3, true), (4, true), (5, true), (6, true), (7, true)]
def xi_ValueError : List (Nat × Bool) := [(0, true), (1, true), (2, true), (3, true), (4, true), (5, true), (6, true), (7, true)]
def xvs : List Nat := [0, 1, 2, 3, 4, 5, 6, 7]
abbrev oNo : Addr → Option Str := fun _ => none
/-- what the top has left, as the walks ask it -/
structure Txt (G : Gx) (mg : Str → Option Value) : Prop where
  n_ValueError : mg "ValueError" = none
  n_int : mg "int" = none
  n_isinstance : mg "isinstance" = none
  n_len : mg "len" = none
  n_list : mg "list" = none
  n_max : mg "max" = none
  n_range : mg "range" = none
  n_repr : mg "repr" = none
  n_super : mg "super" = none
  xv : XvAll G.K G [0, 1, 2, 3, 4, 5, 6, 7]
  xi_InvalidStep : ∃ C, mg "InvalidStep" = some (.ref C) ∧ XiAll G.K G (.ref C) [(0, true), (1, false), (2, false), (3, false), (4, false), (5, false), (6, false), (7, false)]
  xi_InvalidNet : ∃ C, mg "InvalidNet" = some (.ref C) ∧ XiAll G.K G (.ref C) [(0, false), (1, true), (2, false), (3, false), (4, false), (5, false), (6, false), (7, false)]
  xi_InvalidPhases : ∃ C, mg "InvalidPhases" = some (.ref C) ∧ XiAll G.K G (.ref C) [(0, false), (1, false), (2, true), (3, false), (4, false), (5, false), (6, false), (7, false)]
  xi_InvalidPath : ∃ C, mg "InvalidPath" = some (.ref C) ∧ XiAll G.K G (.ref C) [(0, false), (1, false), (2, false), (3, true), (4, false), (5, false), (6, false), (7, false)]
  xi_InvalidName : ∃ C, mg "InvalidName" = some (.ref C) ∧ XiAll G.K G (.ref C) [(0, false), (1, false), (2, false), (3, false), (4, true), (5, false), (6, false), (7, false)]
  xi_InvalidNames : ∃ C, mg "InvalidNames" = some (.ref C) ∧ XiAll G.K G (.ref C) [(0, false), (1, false), (2, false), (3, false), (4, false), (5, true), (6, false), (7, false)]
  xi_InvalidNumber : ∃ C, mg "InvalidNumber" = some (.ref C) ∧ XiAll G.K G (.ref C) [(0, false), (1, false), (2, false), (3, false), (4, false), (5, false), (6, true), (7, false)]
  xi_InvalidSet : ∃ C, mg "InvalidSet" = some (.ref C) ∧ XiAll G.K G (.ref C) [(0, false), (1, false), (2, false), (3, false), (4, false), (5, false), (6, false), (7, true)]
  xi_AgedReadsError : ∃ C, mg "AgedReadsError" = some (.ref C) ∧ XiAll G.K G (.ref C) [(0, true), (1, true), (2, true), (3, true), (4, true), (5, true), (6, true), (7, true)]
  xi_ValueError : XiAll G.K G (.type "ValueError") [(0, true), (1, true), (2, true), (3, true), (4, true), (5, true), (6, true), (7, true)]
abbrev N_law_purse : List Str := ["_law_script", "_law_at", "_law_cell"]
abbrev s_law_purse : Stmt := top 11
theorem sc_law_purse : FnScope N_law_purse ["_law_script", "_law_at"] (defScope s_law_purse) := ⟨rfl, rfl, rfl, by decide +kernel, rfl, by decide +kernel, by decide +kernel⟩
def b_law_purse : SS := (kS (kSet 2 (sK (.int 0)))
    (kS (kIf (sB (s2 gLt (sV 1) (sL gLen (aC (sV 0) aN))))
    (kSet 2 (s2 gIx (sV 0) (sV 1))) kN)
    (kRetL (aC (s2 gMod (sL gInt (aC (sL gMax (aC (s2 gSub (sV 2) (s2 gPow (sK (.int 10)) (sK (.int 18)))) (aC (sK (.int 0)) aN))) aN)) (s2 gPow (s2 gPow (sK (.int 10)) (sK (.int 40))) (sK (.int 10)))) (aC (s2 gMod (sL gInt (aC (sV 2) aN)) (sK (.int 2147483629))) (aC (sK (.int 0)) aN))))))
def m_law_purse : MirM := mirM 3 b_law_purse
abbrev N_law_draw : List Str := ["_law_purse_here", "_law_many", "_law_drawn", "_law_turn", "_law_number"]
abbrev s_law_draw : Stmt := top 12
theorem sc_law_draw : FnScope N_law_draw ["_law_purse_here", "_law_many"] (defScope s_law_draw) := ⟨rfl, rfl, rfl, by decide +kernel, rfl, by decide +kernel, by decide +kernel⟩
def b_law_draw : SS := (kS (kIf (sB (s2 gGt (sIxM 0 (sK (.int 0))) (sK (.int 0))))
    (kS (kSet 2 (s2 gMod (sL gInt (aC (sIxM 0 (sK (.int 0))) aN)) (sV 1)))
    (kS (kPut 0 (sK (.int 0)) (s2 gFdiv (sIxM 0 (sK (.int 0))) (sV 1)))
    (kRet (sV 2)))) kN)
    (kS (kSet 3 (s2 gAdd (sIxM 0 (sK (.int 2))) (sK (.int 1))))
    (kS (kPut 0 (sK (.int 2)) (sV 3))
    (kS (kSet 4 (s2 gMod (sL gInt (aC (s2 gMul (s2 gAdd (sIxM 0 (sK (.int 1))) (s2 gMul (sK (.int 104729)) (sV 3))) (s2 gAdd (s2 gMul (sV 3) (sV 3)) (sK (.int 7919)))) aN)) (sK (.int 2147483629))))
    (kS (kSet 4 (s2 gMod (sL gInt (aC (s2 gAdd (s2 gMul (sV 4) (sV 4)) (sV 3)) aN)) (sK (.int 2147483587))))
    (kRet (s2 gMod (s2 gFdiv (s2 gMod (sL gInt (aC (s2 gMul (sV 4) (sK (.int 48271))) aN)) (sK (.int 2147483647))) (sK (.int 64))) (sV 1))))))))
def m_law_draw : Mir := mir 5 b_law_draw
abbrev N_law_pick : List Str := ["_law_purse_here", "_law_items"]
abbrev s_law_pick : Stmt := top 13
theorem sc_law_pick : FnScope N_law_pick ["_law_purse_here", "_law_items"] (defScope s_law_pick) := ⟨rfl, rfl, rfl, by decide +kernel, rfl, by decide +kernel, by decide +kernel⟩
def b_law_pick : SS := (kRet (s2 gIx (sV 1) (sCallM 2 m_law_draw 0 (aC (sL gLen (aC (sV 1) aN)) aN))))
def m_law_pick : Mir := mir 2 b_law_pick
abbrev N_law_classes : List Str := ["_law_error", "_law_some", "_law_at"]
abbrev s_law_classes : Stmt := top 14
theorem sc_law_classes : FnScope N_law_classes ["_law_error"] (defScope s_law_classes) := ⟨rfl, rfl, rfl, by decide +kernel, rfl, by decide +kernel, by decide +kernel⟩
def b_law_classes : SS := (kS (kSet 1 (sL gLst (aC (s1 (gIsX xi_InvalidStep) (sV 0)) (aC (s1 (gIsX xi_InvalidNet) (sV 0)) (aC (s1 (gIsX xi_InvalidPhases) (sV 0)) aN)))))
    (kS (kSet 1 (s2 gAdd (sV 1) (sL gLst (aC (s1 (gIsX xi_InvalidPath) (sV 0)) (aC (s1 (gIsX xi_InvalidName) (sV 0)) (aC (s1 (gIsX xi_InvalidNames) (sV 0)) aN))))))
    (kS (kSet 1 (s2 gAdd (sV 1) (sL gLst (aC (s1 (gIsX xi_InvalidNumber) (sV 0)) (aC (s1 (gIsX xi_InvalidSet) (sV 0)) aN)))))
    (kS (kIf (bOr (bNot (sB (s1 (gIsX xi_AgedReadsError) (sV 0)))) (bNot (sB (s1 (gIsX xi_ValueError) (sV 0)))))
    (kRet (sL gLst aN)) kN)
    (kRet (sComp (iR (aC (sL gLen (aC (sV 1) aN)) aN)) (.nm 2) (sB (s2 gIx (sV 1) (sV 2))) (sV 2)))))))
def m_law_classes : Mir := mir 3 b_law_classes
abbrev N_law_right : List Str := ["_law_errors", "_law_given", "_law_told", "_law_error", "_law_at"]
abbrev s_law_right : Stmt := top 15
theorem sc_law_right : FnScope N_law_right ["_law_errors", "_law_given"] (defScope s_law_right) := ⟨rfl, rfl, rfl, by decide +kernel, rfl, by decide +kernel, by decide +kernel⟩
def b_law_right : SS := (kS (kSet 2 (sComp (iSeq (sV 0)) (.nm 3) bYes (s1 (gExV xvs) (sV 3))))
    (kS (kIf (sB (s2 gNe (sL (gShow oNo) (aC (sV 2) aN)) (sL (gShow oNo) (aC (s2 gRepL (sL gLst (aC (sV 1) aN)) (sL gLen (aC (sV 0) aN))) aN))))
    (kRet (sK (.bl false))) kN)
    (kRet (s2 gEq (sComp (iSeq (sV 0)) (.nm 3) bYes (sCall 1 m_law_classes (aC (sV 3) aN))) (sComp (iR (aC (sL gLen (aC (sV 0) aN)) aN)) (.nm 4) bYes (sL gLst (aC (sV 4) aN)))))))
def m_law_right : Mir := mir 5 b_law_right
abbrev N_law : List Str := ["_law_script", "_law_purse_here", "_law_number", "_law_given", "_law_placed", "_law_named", "_law_bare"]
abbrev s_law : Stmt := top 16
theorem sc_law : FnScope N_law ["_law_script"] (defScope s_law) := ⟨rfl, rfl, rfl, by decide +kernel, rfl, by decide +kernel, by decide +kernel⟩
def hb_1 : SS := (kOwnC 1 2 m_law_purse (aC (sV 0) (aC (sK (.int 0)) aN)))
def hb_2 : SS := (kSet 2 (s2 gAdd (s2 gMul (sCallM 2 m_law_draw 1 (aC (s2 gPow (sK (.int 10)) (sK (.int 6))) aN)) (s2 gPow (sK (.int 10)) (sK (.int 33)))) (sCallM 2 m_law_draw 1 (aC (s2 gPow (sK (.int 10)) (sK (.int 6))) aN))))
def hb_3 : SS := (kSet 3 (sCallM 2 m_law_pick 1 (aC (sL gLst (aC (sK .non) (aC (sK (.bl true)) (aC (sV 2) (aC (s2 gSub (sK (.int 0)) (sV 2)) (aC (s2 gRepS (sK (.str "x")) (sCallM 2 m_law_draw 1 (aC (sK (.int 9)) aN))) (aC (sL gTup aN) (aC (sL gLst (aC (sV 2) aN)) (aC (sL gLst (aC (sL gLst aN) (aC (sL gLst (aC (sK (.str "a")) aN)) aN))) (aC (sK (.dct false [] [])) aN)))))))))) aN)))
def hb_4 : SS := (kSet 4 (sL gLst (aC (sExc 0 (sV 3)) (aC (sExc 1 (sV 3)) (aC (sExc 2 (sV 3)) (aC (sExc 3 (sV 3)) (aC (sExc 4 (sV 3)) aN)))))))
def hb_5 : SS := (kSet 4 (s2 gAdd (sV 4) (sL gLst (aC (sExc 5 (sV 3)) (aC (sExc 6 (sV 3)) (aC (sExc 7 (sV 3)) aN))))))
def hb_6 : SS := (kOwn 5 (aC (sExc 0 (sV 3)) (aC (sExc 1 (sV 3)) (aC (sExc 2 (sV 3)) (aC (sExc 3 (sV 3)) aN)))))
def hb_7 : SS := (kOwnAdd 5 (sV 5) (sL gLst (aC (sExc 4 (sV 3)) (aC (sExc 5 (sV 3)) (aC (sExc 6 (sV 3)) aN)))))
def hb_8 : SS := (kApp 5 (sExc 7 (sV 3)))
def hb_9 : SS := (kOwn 6 (aC (sExc 0 (sK .non)) (aC (sExc 1 (sK .non)) (aC (sExc 2 (sK .non)) (aC (sExc 3 (sK .non)) (aC (sExc 4 (sK .non)) (aC (sExc 5 (sK .non)) (aC (sExc 6 (sK .non)) aN))))))))
def hb_10 : SS := (kApp 6 (sExc 7 (sK .non)))
def hb_11 : SB := (bOr (bNot (sB (sCall 2 m_law_right (aC (sV 4) (aC (sV 3) aN))))) (bOr (bNot (sB (sCall 2 m_law_right (aC (sV 5) (aC (sV 3) aN))))) (bNot (sB (sCall 2 m_law_right (aC (sV 6) (aC (sK .non) aN)))))))
def hb_12 : SS := (kRet (sK (.bl false)))
def hb_13 : SB := (sB (s1 (gIsTy2 3) (sV 3)))
def hb_14 : SS := (kRet (sAnd (sCall 2 m_law_right (aC (sV 4) (aC (sV 3) aN))) (sCall 2 m_law_right (aC (sV 5) (aC (sV 3) aN)))))
def hb_15 : SS := (kRet (sK (.bl true)))
abbrev lawT (G : Gx) : TS :=
  (tSeq (vsQ G hb_1)
  (tSeq (vsQ G hb_2)
  (tSeq (vsQ G hb_3)
  (tSeq (vsQ G hb_4)
  (tSeq (vsQ G hb_5)
  (tSeq (vsQ G hb_6)
  (tSeq (vsQ G hb_7)
  (tSeq (vsQ G hb_8)
  (tSeq (vsQ G hb_9)
  (tSeq (vsQ G hb_10)
  (tSeq (tIfS (vbQ G hb_11) (vsQ G hb_12) tNext)
  (tSeq (tIfS (vbQ G hb_13) (tSeq (tAppR 3 "more")
  (vsQ G hb_14)) tNext)
  (vsQ G hb_15)))))))))))))
def LawOk (G : Gx) : Prop := ∀ (us : List V) (H : Hp) (Q : VK) (E : XK), spLaw G us H Q E → lawT G { nx := fun _ H1 => Q .non H1, rt := Q } (L2.start N_law us) H
abbrev s_InvalidName_init : Stmt := inClass (top 6) 0
theorem sb_InvalidName : SupShape s_InvalidName_init := ⟨⟨_, _, _, _, _, _, _, _, _, _, rfl, by decide +kernel⟩, ⟨_, rfl, rfl⟩, by decide +kernel, by decide +kernel, by decide +kernel, by decide +kernel, by decide +kernel, rfl, rfl, rfl⟩
theorem kp_InvalidName (a v : Value) : SupBinds s_InvalidName_init "InvalidName.__init__" ⟨[a, v], []⟩ [("self", a), ("value", v)] := fun T cc kV doc pm ct cdv an => ⟨_, rfl, rfl⟩
theorem kk_InvalidName (a v : Value) : SupBinds s_InvalidName_init "InvalidName.__init__" ⟨[a], [("value", v)]⟩ [("self", a), ("value", v)] := fun T cc kV doc pm ct cdv an => ⟨_, rfl, rfl⟩
theorem kn_InvalidName (a : Value) : SupBinds s_InvalidName_init "InvalidName.__init__" ⟨[a], []⟩ [("self", a), ("value", .none)] := fun T cc kV doc pm ct cdv an => ⟨_, rfl, rfl⟩
abbrev s_InvalidNames_init : Stmt := inClass (top 7) 0
theorem sb_InvalidNames : SupShape s_InvalidNames_init := ⟨⟨_, _, _, _, _, _, _, _, _, _, rfl, by decide +kernel⟩, ⟨_, rfl, rfl⟩, by decide +kernel, by decide +kernel, by decide +kernel, by decide +kernel, by decide +kernel, rfl, rfl, rfl⟩
theorem kp_InvalidNames (a v : Value) : SupBinds s_InvalidNames_init "InvalidNames.__init__" ⟨[a, v], []⟩ [("self", a), ("value", v)] := fun T cc kV doc pm ct cdv an => ⟨_, rfl, rfl⟩
theorem kk_InvalidNames (a v : Value) : SupBinds s_InvalidNames_init "InvalidNames.__init__" ⟨[a], [("value", v)]⟩ [("self", a), ("value", v)] := fun T cc kV doc pm ct cdv an => ⟨_, rfl, rfl⟩
theorem kn_InvalidNames (a : Value) : SupBinds s_InvalidNames_init "InvalidNames.__init__" ⟨[a], []⟩ [("self", a), ("value", .none)] := fun T cc kV doc pm ct cdv an => ⟨_, rfl, rfl⟩
abbrev s_InvalidNet_init : Stmt := inClass (top 3) 0
theorem sb_InvalidNet : SupShape s_InvalidNet_init := ⟨⟨_, _, _, _, _, _, _, _, _, _, rfl, by decide +kernel⟩, ⟨_, rfl, rfl⟩, by decide +kernel, by decide +kernel, by decide +kernel, by decide +kernel, by decide +kernel, rfl, rfl, rfl⟩
theorem kp_InvalidNet (a v : Value) : SupBinds s_InvalidNet_init "InvalidNet.__init__" ⟨[a, v], []⟩ [("self", a), ("value", v)] := fun T cc kV doc pm ct cdv an => ⟨_, rfl, rfl⟩
theorem kk_InvalidNet (a v : Value) : SupBinds s_InvalidNet_init "InvalidNet.__init__" ⟨[a], [("value", v)]⟩ [("self", a), ("value", v)] := fun T cc kV doc pm ct cdv an => ⟨_, rfl, rfl⟩
theorem kn_InvalidNet (a : Value) : SupBinds s_InvalidNet_init "InvalidNet.__init__" ⟨[a], []⟩ [("self", a), ("value", .none)] := fun T cc kV doc pm ct cdv an => ⟨_, rfl, rfl⟩
abbrev s_InvalidNumber_init : Stmt := inClass (top 8) 0
theorem sb_InvalidNumber : SupShape s_InvalidNumber_init := ⟨⟨_, _, _, _, _, _, _, _, _, _, rfl, by decide +kernel⟩, ⟨_, rfl, rfl⟩, by decide +kernel, by decide +kernel, by decide +kernel, by decide +kernel, by decide +kernel, rfl, rfl, rfl⟩
theorem kp_InvalidNumber (a v : Value) : SupBinds s_InvalidNumber_init "InvalidNumber.__init__" ⟨[a, v], []⟩ [("self", a), ("value", v)] := fun T cc kV doc pm ct cdv an => ⟨_, rfl, rfl⟩
theorem kk_InvalidNumber (a v : Value) : SupBinds s_InvalidNumber_init "InvalidNumber.__init__" ⟨[a], [("value", v)]⟩ [("self", a), ("value", v)] := fun T cc kV doc pm ct cdv an => ⟨_, rfl, rfl⟩
theorem kn_InvalidNumber (a : Value) : SupBinds s_InvalidNumber_init "InvalidNumber.__init__" ⟨[a], []⟩ [("self", a), ("value", .none)] := fun T cc kV doc pm ct cdv an => ⟨_, rfl, rfl⟩
abbrev s_InvalidPath_init : Stmt := inClass (top 5) 0
theorem sb_InvalidPath : SupShape s_InvalidPath_init := ⟨⟨_, _, _, _, _, _, _, _, _, _, rfl, by decide +kernel⟩, ⟨_, rfl, rfl⟩, by decide +kernel, by decide +kernel, by decide +kernel, by decide +kernel, by decide +kernel, rfl, rfl, rfl⟩
theorem kp_InvalidPath (a v : Value) : SupBinds s_InvalidPath_init "InvalidPath.__init__" ⟨[a, v], []⟩ [("self", a), ("value", v)] := fun T cc kV doc pm ct cdv an => ⟨_, rfl, rfl⟩
theorem kk_InvalidPath (a v : Value) : SupBinds s_InvalidPath_init "InvalidPath.__init__" ⟨[a], [("value", v)]⟩ [("self", a), ("value", v)] := fun T cc kV doc pm ct cdv an => ⟨_, rfl, rfl⟩
theorem kn_InvalidPath (a : Value) : SupBinds s_InvalidPath_init "InvalidPath.__init__" ⟨[a], []⟩ [("self", a), ("value", .none)] := fun T cc kV doc pm ct cdv an => ⟨_, rfl, rfl⟩
abbrev s_InvalidPhases_init : Stmt := inClass (top 4) 0
theorem sb_InvalidPhases : SupShape s_InvalidPhases_init := ⟨⟨_, _, _, _, _, _, _, _, _, _, rfl, by decide +kernel⟩, ⟨_, rfl, rfl⟩, by decide +kernel, by decide +kernel, by decide +kernel, by decide +kernel, by decide +kernel, rfl, rfl, rfl⟩
theorem kp_InvalidPhases (a v : Value) : SupBinds s_InvalidPhases_init "InvalidPhases.__init__" ⟨[a, v], []⟩ [("self", a), ("value", v)] := fun T cc kV doc pm ct cdv an => ⟨_, rfl, rfl⟩
theorem kk_InvalidPhases (a v : Value) : SupBinds s_InvalidPhases_init "InvalidPhases.__init__" ⟨[a], [("value", v)]⟩ [("self", a), ("value", v)] := fun T cc kV doc pm ct cdv an => ⟨_, rfl, rfl⟩
theorem kn_InvalidPhases (a : Value) : SupBinds s_InvalidPhases_init "InvalidPhases.__init__" ⟨[a], []⟩ [("self", a), ("value", .none)] := fun T cc kV doc pm ct cdv an => ⟨_, rfl, rfl⟩
abbrev s_InvalidSet_init : Stmt := inClass (top 9) 0
theorem sb_InvalidSet : SupShape s_InvalidSet_init := ⟨⟨_, _, _, _, _, _, _, _, _, _, rfl, by decide +kernel⟩, ⟨_, rfl, rfl⟩, by decide +kernel, by decide +kernel, by decide +kernel, by decide +kernel, by decide +kernel, rfl, rfl, rfl⟩
theorem kp_InvalidSet (a v : Value) : SupBinds s_InvalidSet_init "InvalidSet.__init__" ⟨[a, v], []⟩ [("self", a), ("value", v)] := fun T cc kV doc pm ct cdv an => ⟨_, rfl, rfl⟩
theorem kk_InvalidSet (a v : Value) : SupBinds s_InvalidSet_init "InvalidSet.__init__" ⟨[a], [("value", v)]⟩ [("self", a), ("value", v)] := fun T cc kV doc pm ct cdv an => ⟨_, rfl, rfl⟩
theorem kn_InvalidSet (a : Value) : SupBinds s_InvalidSet_init "InvalidSet.__init__" ⟨[a], []⟩ [("self", a), ("value", .none)] := fun T cc kV doc pm ct cdv an => ⟨_, rfl, rfl⟩
abbrev s_InvalidStep_init : Stmt := inClass (top 2) 0
theorem sb_InvalidStep : SupShape s_InvalidStep_init := ⟨⟨_, _, _, _, _, _, _, _, _, _, rfl, by decide +kernel⟩, ⟨_, rfl, rfl⟩, by decide +kernel, by decide +kernel, by decide +kernel, by decide +kernel, by decide +kernel, rfl, rfl, rfl⟩
theorem kp_InvalidStep (a v : Value) : SupBinds s_InvalidStep_init "InvalidStep.__init__" ⟨[a, v], []⟩ [("self", a), ("value", v)] := fun T cc kV doc pm ct cdv an => ⟨_, rfl, rfl⟩
theorem kk_InvalidStep (a v : Value) : SupBinds s_InvalidStep_init "InvalidStep.__init__" ⟨[a], [("value", v)]⟩ [("self", a), ("value", v)] := fun T cc kV doc pm ct cdv an => ⟨_, rfl, rfl⟩
theorem kn_InvalidStep (a : Value) : SupBinds s_InvalidStep_init "InvalidStep.__init__" ⟨[a], []⟩ [("self", a), ("value", .none)] := fun T cc kV doc pm ct cdv an => ⟨_, rfl, rfl⟩
section
variable {G : Gx}
theorem ok_law_purse (T : Txt G G.mg) {f : Addr} {fd : FuncData} (F : Fun G.K "_law_purse" "_law_purse" s_law_purse f fd)  : FnOk G.P G.w G.K G.mg G.base CX0 1 f fd ["_law_script", "_law_at"] (spM G 2 m_law_purse) :=
  fn_okM F sc_law_purse fun c cdv A outer sh H E hG hr => by
    subst hG
    exact (vs_cons (vs_set (i := 2) sc_law_purse.nd ve_int)
    (vs_cons (vs_if (vt_cmp od_lt (ve_var (pv 1)) (ve_callB (ca_len rfl) T.n_len bt_len (va_cons (ve_var (pv 0)) va_nil)))
    (vs_one (vs_set (i := 2) sc_law_purse.nd (ve_ix rfl (ve_var (pv 0)) (ve_var (pv 1))))) vs_nil)
    (vs_one (vs_retL (va_cons (ve_op od_mod (ve_callT ca_int T.n_int bt_int (va_cons (ve_callB (ca_max rfl) T.n_max bt_max (va_cons (ve_op od_sub (ve_var (pv 2)) (ve_op od_pow ve_int ve_int)) (va_cons ve_int va_nil))) va_nil)) (ve_op od_pow (ve_op od_pow ve_int ve_int) ve_int)) (va_cons (ve_op od_mod (ve_callT ca_int T.n_int bt_int (va_cons (ve_var (pv 2)) va_nil)) ve_int) (va_cons ve_int va_nil)))))))
theorem ok_law_draw (T : Txt G G.mg) {f : Addr} {fd : FuncData} (F : Fun G.K "_law_draw" "_law_draw" s_law_draw f fd)  : FnOk G.P G.w G.K G.mg G.base CX0 1 f fd ["_law_purse_here", "_law_many"] (spV G 2 m_law_draw) :=
  fn_ok F sc_law_draw fun c cdv A outer sh H E hG hr => by
    subst hG
    exact (vs_cons (vs_if (vt_cmp od_gt (ve_ixM (pv 0) ve_int) ve_int)
    (vs_cons (vs_set (i := 2) sc_law_draw.nd (ve_op od_mod (ve_callT ca_int T.n_int bt_int (va_cons (ve_ixM (pv 0) ve_int) va_nil)) (ve_var (pv 1))))
    (vs_cons (vs_put (pv 0) ve_int (ve_op od_fdiv (ve_ixM (pv 0) ve_int) (ve_var (pv 1))))
    (vs_one (vs_ret (ve_var (pv 2)))))) vs_nil)
    (vs_cons (vs_set (i := 3) sc_law_draw.nd (ve_op od_add (ve_ixM (pv 0) ve_int) ve_int))
    (vs_cons (vs_put (pv 0) ve_int (ve_var (pv 3)))
    (vs_cons (vs_set (i := 4) sc_law_draw.nd (ve_op od_mod (ve_callT ca_int T.n_int bt_int (va_cons (ve_op od_mul (ve_op od_add (ve_ixM (pv 0) ve_int) (ve_op od_mul ve_int (ve_var (pv 3)))) (ve_op od_add (ve_op od_mul (ve_var (pv 3)) (ve_var (pv 3))) ve_int)) va_nil)) ve_int))
    (vs_cons (vs_set (i := 4) sc_law_draw.nd (ve_op od_mod (ve_callT ca_int T.n_int bt_int (va_cons (ve_op od_add (ve_op od_mul (ve_var (pv 4)) (ve_var (pv 4))) (ve_var (pv 3))) va_nil)) ve_int))
    (vs_one (vs_ret (ve_op od_mod (ve_op od_fdiv (ve_op od_mod (ve_callT ca_int T.n_int bt_int (va_cons (ve_op od_mul (ve_var (pv 4)) ve_int) va_nil)) ve_int) ve_int) (ve_var (pv 1))))))))))
theorem ok_law_pick (T : Txt G G.mg) {f : Addr} {fd : FuncData} (F : Fun G.K "_law_pick" "_law_pick" s_law_pick f fd) (C__law_draw : Cal G.P G.w G G.mg G.base "_law_draw" 1 2 m_law_draw) : FnOk G.P G.w G.K G.mg G.base CX0 2 f fd ["_law_purse_here", "_law_items"] (spV G 2 m_law_pick) :=
  fn_ok F sc_law_pick fun c cdv A outer sh H E hG hr => by
    subst hG
    exact (vs_one (vs_ret (ve_ix rfl (ve_var (pv 1)) (ve_callM C__law_draw rfl (hr.mono (by decide)) (pv 0) (va_cons (ve_callB (ca_len rfl) T.n_len bt_len (va_cons (ve_var (pv 1)) va_nil)) va_nil)))))
theorem ok_law_classes (T : Txt G G.mg) {f : Addr} {fd : FuncData} (F : Fun G.K "_law_classes" "_law_classes" s_law_classes f fd)  : FnOk G.P G.w G.K G.mg G.base CX0 1 f fd ["_law_error"] (spV G 1 m_law_classes) :=
  fn_ok F sc_law_classes fun c cdv A outer sh H E hG hr => by
    subst hG
    exact (vs_cons (vs_set (i := 1) sc_law_classes.nd (ve_lst (va_cons (ve_isXE T.xi_InvalidStep rfl T.n_isinstance (ve_var (pv 0))) (va_cons (ve_isXE T.xi_InvalidNet rfl T.n_isinstance (ve_var (pv 0))) (va_cons (ve_isXE T.xi_InvalidPhases rfl T.n_isinstance (ve_var (pv 0))) va_nil)))))
    (vs_cons (vs_set (i := 1) sc_law_classes.nd (ve_op od_add (ve_var (pv 1)) (ve_lst (va_cons (ve_isXE T.xi_InvalidPath rfl T.n_isinstance (ve_var (pv 0))) (va_cons (ve_isXE T.xi_InvalidName rfl T.n_isinstance (ve_var (pv 0))) (va_cons (ve_isXE T.xi_InvalidNames rfl T.n_isinstance (ve_var (pv 0))) va_nil))))))
    (vs_cons (vs_set (i := 1) sc_law_classes.nd (ve_op od_add (ve_var (pv 1)) (ve_lst (va_cons (ve_isXE T.xi_InvalidNumber rfl T.n_isinstance (ve_var (pv 0))) (va_cons (ve_isXE T.xi_InvalidSet rfl T.n_isinstance (ve_var (pv 0))) va_nil)))))
    (vs_cons (vs_if (PW.pt (vw_or (vt_not (vt_val (ve_isXE T.xi_AgedReadsError rfl T.n_isinstance (ve_var (pv 0))))) (pw_or1 (vt_not (vt_val (ve_isXV T.xi_ValueError rfl T.n_isinstance (ve_var (pv 0)) T.n_ValueError))))))
    (vs_one (vs_ret (ve_lst va_nil))) vs_nil)
    (vs_one (vs_ret (ve_lc (own := [("_law_at", 2)]) (.nm 2) rfl sc_law_classes.nd (vi_range1 T.n_range (va_cons (ve_callB (ca_len rfl) T.n_len bt_len (va_cons (ve_var (pv 1)) va_nil)) va_nil)) (blkOk_by (N := N_law_classes) (sc := defScope s_law_classes) (by decide +kernel)) rfl (fun _ _ _ _ _ => (pg_name (i := 2) sc_law_classes.nd rfl (Or.inl rfl))) (fun _ _ _ _ _ _ _ _ => (vts_one (vt_val (ve_ix rfl (ve_var (pv 1)) (ve_var (pv 2)))))) (fun _ _ _ _ _ _ _ _ => (ve_var (pv 2))))))))))
theorem ok_law_right (T : Txt G G.mg) {f : Addr} {fd : FuncData} (F : Fun G.K "_law_right" "_law_right" s_law_right f fd) (C__law_classes : Cal G.P G.w G G.mg G.base "_law_classes" 1 1 m_law_classes) : FnG G.P G.w G.K G.mg G.base 2 f fd ["_law_errors", "_law_given"] (spV G 2 m_law_right) :=
  fn_okG F sc_law_right fun c cdv A outer sh H E hG hgd hr => by
    subst hG
    exact (vs_cons (vs_setLc (i := 2) (own := [("_law_error", 3)]) (.nm 3) rfl sc_law_right.nd (vi_list (ve_var (pv 0))) (blkOk_by (N := N_law_right) (sc := defScope s_law_right) (by decide +kernel)) rfl (fun _ _ _ _ _ => (pg_name (i := 3) sc_law_right.nd rfl (Or.inl rfl))) (fun _ _ _ _ _ _ _ _ => vts_nil) (fun _ _ _ _ _ _ _ _ => (ve_exF T.xv rfl (ve_var (pv 3)))) (sw_true rfl rfl rfl (by decide +kernel)))
    (vs_cons (vs_if (vt_cmp (od_ne hr.units) (ve_callB (ca_show XShow.no hgd (hu100 hr)) T.n_repr bt_repr (va_cons (ve_var (pv 2)) va_nil)) (ve_callB (ca_show XShow.no hgd (hu100 hr)) T.n_repr bt_repr (va_cons (ve_op od_rep (ve_lst (va_cons (ve_var (pv 1)) va_nil)) (ve_callB (ca_len rfl) T.n_len bt_len (va_cons (ve_var (pv 0)) va_nil))) va_nil)))
    (vs_one (vs_ret ve_bl)) vs_nil)
    (vs_one (vs_ret (ve_cmp (od_eq hr.units) (ve_lc (own := [("_law_error", 3)]) (.nm 3) rfl sc_law_right.nd (vi_list (ve_var (pv 0))) (blkOk_by (N := N_law_right) (sc := defScope s_law_right) (by decide +kernel)) rfl (fun _ _ _ _ _ => (pg_name (i := 3) sc_law_right.nd rfl (Or.inl rfl))) (fun _ _ _ _ _ _ _ _ => vts_nil) (fun _ _ _ _ _ _ _ _ => (ve_call C__law_classes rfl (hr.mono (by decide)) (va_cons (ve_var (pv 3)) va_nil)))) (ve_lc (own := [("_law_at", 4)]) (.nm 4) rfl sc_law_right.nd (vi_range1 T.n_range (va_cons (ve_callB (ca_len rfl) T.n_len bt_len (va_cons (ve_var (pv 0)) va_nil)) va_nil)) (blkOk_by (N := N_law_right) (sc := defScope s_law_right) (by decide +kernel)) rfl (fun _ _ _ _ _ => (pg_name (i := 4) sc_law_right.nd rfl (Or.inl rfl))) (fun _ _ _ _ _ _ _ _ => vts_nil) (fun _ _ _ _ _ _ _ _ => (ve_lst (va_cons (ve_var (pv 4)) va_nil)))))))))
theorem ok_law (T : Txt G G.mg) {f : Addr} {fd : FuncData} (F : Fun G.K "law" "law" s_law f fd) (C__law_purse : CalM G.P G.w G G.mg G.base "_law_purse" 1 2 m_law_purse) (C__law_draw : Cal G.P G.w G G.mg G.base "_law_draw" 1 2 m_law_draw) (C__law_pick : Cal G.P G.w G G.mg G.base "_law_pick" 2 2 m_law_pick) (CE_InvalidStep : CalE G.P G G.mg "InvalidStep" 0) (CE_InvalidNet : CalE G.P G G.mg "InvalidNet" 1) (CE_InvalidPhases : CalE G.P G G.mg "InvalidPhases" 2) (CE_InvalidPath : CalE G.P G G.mg "InvalidPath" 3) (CE_InvalidName : CalE G.P G G.mg "InvalidName" 4) (CE_InvalidNames : CalE G.P G G.mg "InvalidNames" 5) (CE_InvalidNumber : CalE G.P G G.mg "InvalidNumber" 6) (CE_InvalidSet : CalE G.P G G.mg "InvalidSet" 7) (C__law_right : CalG G.P G.w G G.mg G.base "_law_right" 2 2 m_law_right) (hL : LawOk G) : FnG G.P G.w G.K G.mg G.base 3 f fd ["_law_script"] (spLaw G) :=
  fnG_of F sc_law (fun us H Q E ⟨a, ns, e, _⟩ => by subst e; rfl) fun cdv A outer sh H us Q E hgd hr h => ⟨lawT G, (pss_cons (ps_x fun c hG => by
    subst hG
    exact (vs_ownC (i := 1) C__law_purse rfl (hr.mono (by decide)) sc_law.nd (va_cons (ve_var (pv 0)) (va_cons ve_int va_nil))))
  (pss_cons (ps_x fun c hG => by
    subst hG
    exact (vs_set (i := 2) sc_law.nd (ve_op od_add (ve_op od_mul (ve_callM C__law_draw rfl (hr.mono (by decide)) (pv 1) (va_cons (ve_op od_pow ve_int ve_int) va_nil)) (ve_op od_pow ve_int ve_int)) (ve_callM C__law_draw rfl (hr.mono (by decide)) (pv 1) (va_cons (ve_op od_pow ve_int ve_int) va_nil)))))
  (pss_cons (ps_x fun c hG => by
    subst hG
    exact (vs_set (i := 3) sc_law.nd (ve_callM C__law_pick rfl (hr.mono (by decide)) (pv 1) (va_cons (ve_lst (va_cons ve_non (va_cons ve_bl (va_cons (ve_var (pv 2)) (va_cons (ve_op od_sub ve_int (ve_var (pv 2))) (va_cons (ve_op od_repS ve_str (ve_callM C__law_draw rfl (hr.mono (by decide)) (pv 1) (va_cons ve_int va_nil))) (va_cons (ve_tup va_nil) (va_cons (ve_lst (va_cons (ve_var (pv 2)) va_nil)) (va_cons (ve_lst (va_cons (ve_lst va_nil) (va_cons (ve_lst (va_cons ve_str va_nil)) va_nil))) (va_cons ve_empD va_nil)))))))))) va_nil))))
  (pss_cons (ps_x fun c hG => by
    subst hG
    exact (vs_set (i := 4) sc_law.nd (ve_lst (va_cons (ve_mkX (lv := 0) CE_InvalidStep rfl (hr.mono (by decide)) (ve_var (pv 3))) (va_cons (ve_mkX (lv := 0) CE_InvalidNet rfl (hr.mono (by decide)) (ve_var (pv 3))) (va_cons (ve_mkX (lv := 0) CE_InvalidPhases rfl (hr.mono (by decide)) (ve_var (pv 3))) (va_cons (ve_mkX (lv := 0) CE_InvalidPath rfl (hr.mono (by decide)) (ve_var (pv 3))) (va_cons (ve_mkX (lv := 0) CE_InvalidName rfl (hr.mono (by decide)) (ve_var (pv 3))) va_nil))))))))
  (pss_cons (ps_x fun c hG => by
    subst hG
    exact (vs_set (i := 4) sc_law.nd (ve_op od_add (ve_var (pv 4)) (ve_lst (va_cons (ve_mkX (lv := 0) CE_InvalidNames rfl (hr.mono (by decide)) (ve_var (pv 3))) (va_cons (ve_mkX (lv := 0) CE_InvalidNumber rfl (hr.mono (by decide)) (ve_var (pv 3))) (va_cons (ve_mkX (lv := 0) CE_InvalidSet rfl (hr.mono (by decide)) (ve_var (pv 3))) va_nil)))))))
  (pss_cons (ps_x fun c hG => by
    subst hG
    exact (vs_own (i := 5) sc_law.nd (va_cons (ve_mkXk (lv := 0) CE_InvalidStep rfl (hr.mono (by decide)) (ve_var (pv 3))) (va_cons (ve_mkXk (lv := 0) CE_InvalidNet rfl (hr.mono (by decide)) (ve_var (pv 3))) (va_cons (ve_mkXk (lv := 0) CE_InvalidPhases rfl (hr.mono (by decide)) (ve_var (pv 3))) (va_cons (ve_mkXk (lv := 0) CE_InvalidPath rfl (hr.mono (by decide)) (ve_var (pv 3))) va_nil))))))
  (pss_cons (ps_x fun c hG => by
    subst hG
    exact (vs_ownAdd (i := 5) sc_law.nd (ve_var (pv 5)) (ve_lst (va_cons (ve_mkXk (lv := 0) CE_InvalidName rfl (hr.mono (by decide)) (ve_var (pv 3))) (va_cons (ve_mkXk (lv := 0) CE_InvalidNames rfl (hr.mono (by decide)) (ve_var (pv 3))) (va_cons (ve_mkXk (lv := 0) CE_InvalidNumber rfl (hr.mono (by decide)) (ve_var (pv 3))) va_nil))))))
  (pss_cons (ps_x fun c hG => by
    subst hG
    exact (vs_app (pv 5) (ve_mkXk (lv := 0) CE_InvalidSet rfl (hr.mono (by decide)) (ve_var (pv 3)))))
  (pss_cons (ps_x fun c hG => by
    subst hG
    exact (vs_own (i := 6) sc_law.nd (va_cons (ve_mkX0 (lv := 0) CE_InvalidStep rfl (hr.mono (by decide))) (va_cons (ve_mkX0 (lv := 0) CE_InvalidNet rfl (hr.mono (by decide))) (va_cons (ve_mkX0 (lv := 0) CE_InvalidPhases rfl (hr.mono (by decide))) (va_cons (ve_mkX0 (lv := 0) CE_InvalidPath rfl (hr.mono (by decide))) (va_cons (ve_mkX0 (lv := 0) CE_InvalidName rfl (hr.mono (by decide))) (va_cons (ve_mkX0 (lv := 0) CE_InvalidNames rfl (hr.mono (by decide))) (va_cons (ve_mkX0 (lv := 0) CE_InvalidNumber rfl (hr.mono (by decide))) va_nil)))))))))
  (pss_cons (ps_x fun c hG => by
    subst hG
    exact (vs_app (pv 6) (ve_mkX0 (lv := 0) CE_InvalidSet rfl (hr.mono (by decide)))))
  (pss_cons (ps_if (pt_x fun c hG => by
    subst hG
    exact (PW.pt (vw_or (vt_not (vt_val (ve_callG C__law_right rfl hgd (hr.mono (by decide)) (va_cons (ve_var (pv 4)) (va_cons (ve_var (pv 3)) va_nil))))) (vw_or (vt_not (vt_val (ve_callG C__law_right rfl hgd (hr.mono (by decide)) (va_cons (ve_var (pv 5)) (va_cons (ve_var (pv 3)) va_nil))))) (pw_or1 (vt_not (vt_val (ve_callG C__law_right rfl hgd (hr.mono (by decide)) (va_cons (ve_var (pv 6)) (va_cons ve_non va_nil)))))))))) (pss_one (ps_x fun c hG => by
    subst hG
    exact (vs_ret ve_bl))) pss_nil)
  (pss_cons (ps_if (pt_x fun c hG => by
    subst hG
    exact (vt_val (ve_isTy2 3 (by decide) T.n_isinstance (ve_var (pv 3)) T.n_list bt_ty3))) (pss_cons (ps_appR (pv 3))
  (pss_one (ps_x fun c hG => by
    subst hG
    exact (vs_ret (ve_and (ve_callG C__law_right rfl hgd (hr.mono (by decide)) (va_cons (ve_var (pv 4)) (va_cons (ve_var (pv 3)) va_nil))) (ve_one (ve_callG C__law_right rfl hgd (hr.mono (by decide)) (va_cons (ve_var (pv 5)) (va_cons (ve_var (pv 3)) va_nil))))))))) pss_nil)
  (pss_one (ps_x fun c hG => by
    subst hG
    exact (vs_ret ve_bl))))))))))))))), hL us H Q E h⟩
end
end Toy

set_option Elab.async false
set_option linter.all false
set_option maxRecDepth 100000
set_option maxHeartbeats 8000000
namespace Toy
open PySem PySem.Spec PyProof.Rows L2 VS
/-! sizes -/
def Sm (b : Nat) (i : Int) : Prop := i.natAbs < 2 ^ b
theorem Sm.bd {b : Nat} {i : Int} (h : Sm b i) (hb : b ≤ 4000) : Bd i := Nat.lt_of_lt_of_le h (Nat.pow_le_pow_right (by decide) hb)
theorem Sm.mono {b d : Nat} {i : Int} (h : Sm b i) (hb : b ≤ d) : Sm d i := Nat.lt_of_lt_of_le h (Nat.pow_le_pow_right (by decide) hb)
theorem Sm.mul {b d : Nat} {i j : Int} (h : Sm b i) (k : Sm d j) : Sm (b + d) (i * j) := by
  unfold Sm at *
  rw [Int.natAbs_mul, Nat.pow_add]
  exact Nat.mul_lt_mul'' h k
theorem Sm.add {b : Nat} {i j : Int} (h : Sm b i) (k : Sm b j) : Sm (b + 1) (i + j) := by
  unfold Sm at *
  rw [Nat.pow_succ]
  omega
theorem Sm.sub {b : Nat} {i j : Int} (h : Sm b i) (k : Sm b j) : Sm (b + 1) (i - j) := by
  unfold Sm at *
  rw [Nat.pow_succ]
  omega
theorem Sm.add' {b d e : Nat} {i j : Int} (h : Sm b i) (k : Sm d j) (hb : b < e) (hd : d < e) : Sm e (i + j) := by
  have := (h.mono (d := e - 1) (by omega)).add (k.mono (d := e - 1) (by omega))
  rwa [show e - 1 + 1 = e by omega] at this
theorem Sm.sub' {b d e : Nat} {i j : Int} (h : Sm b i) (k : Sm d j) (hb : b < e) (hd : d < e) : Sm e (i - j) := by
  have := (h.mono (d := e - 1) (by omega)).sub (k.mono (d := e - 1) (by omega))
  rwa [show e - 1 + 1 = e by omega] at this
theorem Sm.div {b : Nat} {i j : Int} (h : Sm b i) (k : 0 < j) : Sm (b + 1) (i / j) := by
  unfold Sm at *
  rw [Nat.pow_succ]
  have h1 : i / j * j ≤ i := Int.ediv_mul_le i (by omega)
  have h2 : i < i / j * j + j := by
    have := Int.lt_ediv_add_one_mul_self i k
    rwa [Int.add_mul, Int.one_mul] at this
  have h3 : (i / j).natAbs ≤ i.natAbs + 1 := by
    rcases Int.le_total 0 (i / j) with q | q
    · have : i / j * 1 ≤ i / j * j := Int.mul_le_mul_of_nonneg_left (by omega) q
      omega
    · have : i / j * j ≤ i / j * 1 := Int.mul_le_mul_of_nonpos_left q (by omega)
      by_cases z : i < 0
      · have : i ≤ i / j := by
          have a1 : i / j * j - i / j = (i / j) * (j - 1) := by rw [Int.mul_sub, Int.mul_one]
          rcases Int.lt_or_le (i / j) i with c | c
          · exfalso
            have : (i / j + 1) * j ≤ (i/j + 1) * 1 := Int.mul_le_mul_of_nonpos_left (by omega) (by omega)
            rw [Int.add_mul, Int.one_mul, Int.mul_one] at this
            omega
          · exact c
        omega
      · have : 0 ≤ i / j := Int.ediv_nonneg (by omega) (by omega)
        omega
  have : 0 < 2 ^ b := Nat.pow_pos (by decide)
  omega
/-! nets as data -/
structure Stp where
  nm : Str
  p : Int
  l : Int
  rd : List Str
abbrev Nt := List Stp
def stpD (s : Stp) : D := .ins 0 [.str s.nm, .int s.p, .int s.l, .tup (s.rd.map .str)]
def netD (ns : Nt) : D := .ins 1 [.tup (ns.map stpD)]
def pp (ns : Nt) (i : Nat) : Int := ((ns[i]?).map (·.p)).getD 1
def ll (ns : Nt) (i : Nat) : Int := ((ns[i]?).map (·.l)).getD 0
def ss (S : List Int) (i : Nat) : Int := (S[i]?).getD 0
theorem atI_nat {α : Type} (xs : List α) (i : Nat) : L2.atI xs (i : Int) = xs[i]? := by
  unfold L2.atI L2.ixN
  rw [if_pos (by omega)]
  by_cases h : (i : Int) < xs.length
  · rw [if_pos h]; rfl
  · rw [if_neg h, List.getElem?_eq_none (by omega)]; rfl
theorem gMul_eq {a b : Int} (h1 : Bd a) (h2 : Bd b) : gMul (.int a) (.int b) = some (.int (a * b)) := if_pos ⟨h1, h2⟩
theorem gFdiv_eq {a b : Int} (h1 : 0 < b) (h2 : Bd b) : gFdiv (.int a) (.int b) = some (.int (a / b)) := if_pos ⟨h1, h2⟩
theorem gMod_eq {a b : Int} (h1 : 0 < b) : gMod (.int a) (.int b) = some (.int (a % b)) := if_pos h1
theorem gAdd_eq {a b : Int} : gAdd (.int a) (.int b) = some (.int (a + b)) := rfl
theorem gSub_eq {a b : Int} : gSub (.int a) (.int b) = some (.int (a - b)) := rfl
theorem gIx_lst {xs : List D} {i : Int} : gIx (.lst xs) (.int i) = L2.atI xs i := rfl
theorem gIx_tup {xs : List D} {i : Int} : gIx (.tup xs) (.int i) = L2.atI xs i := rfl
theorem nodes_eq {ns : Nt} : gFld 1 0 (netD ns) = some (.tup (ns.map stpD)) := rfl
theorem turn_eq {s : Stp} : gFld 0 1 (stpD s) = some (.int s.p) := rfl
theorem lag_eq {s : Stp} : gFld 0 2 (stpD s) = some (.int s.l) := rfl
theorem name_eq {s : Stp} : gFld 0 0 (stpD s) = some (.str s.nm) := rfl
theorem srcs_eq {s : Stp} : gFld 0 3 (stpD s) = some (.tup (s.rd.map .str)) := rfl
theorem gSub_t {a b : Int} : gSub (.int a) (.int b) = some (.int (a - b)) := rfl
theorem map_get {α β : Type} {f : α → β} {xs : List α} {i : Nat} {x : α} (h : xs[i]? = some x) : (xs.map f)[i]? = some (f x) := by rw [List.getElem?_map, h]; rfl
end Toy

set_option Elab.async false
set_option linter.all false
set_option maxRecDepth 100000
set_option maxHeartbeats 8000000
namespace Toy
open PySem PySem.Spec PyProof.Rows L2 VS
/-! the greatest common divisor, three times -/
def gd (a b : Int) : Int := (Int.gcd a b : Int)
theorem gNe_int {a b : Int} : gNe (.int a) (.int b) = some (.bl (!decide (a = b))) := rfl
theorem gEq_int {a b : Int} : gEq (.int a) (.int b) = some (.bl (decide (a = b))) := rfl
theorem gGt_int {a b : Int} : gGt (.int a) (.int b) = some (.bl (decide (b < a))) := rfl
theorem gLt_int {a b : Int} : gLt (.int a) (.int b) = some (.bl (decide (a < b))) := rfl
theorem gLe_int {a b : Int} : gLe (.int a) (.int b) = some (.bl (decide (a ≤ b))) := rfl
theorem gGe_int {a b : Int} : gGe (.int a) (.int b) = some (.bl (decide (b ≤ a))) := rfl
theorem gInt_int {a : Int} : gInt [.int a] = some (.int a) := rfl
theorem gd_zero {a : Int} (h : 0 ≤ a) : gd a 0 = a := by unfold gd; rw [Int.gcd_zero_right]; omega
theorem gd_step {a b : Int} (ha : 0 ≤ a) (hb : 0 < b) : gd b (a % b) = gd a b := by
  obtain ⟨m, rfl⟩ := Int.eq_ofNat_of_zero_le ha
  obtain ⟨n, rfl⟩ := Int.eq_ofNat_of_zero_le (Int.le_of_lt hb)
  unfold gd
  have e : (m : Int) % (n : Int) = ((m % n : Nat) : Int) := (Int.natCast_emod m n).symm
  rw [e]
  unfold Int.gcd
  simp only [Int.natAbs_natCast]
  rw [Nat.gcd_comm n (m % n), ← Nat.gcd_rec n m, Nat.gcd_comm n m]
theorem gd_pos {a b : Int} (hb : 0 < b) : 0 < gd a b := by
  have : 0 < Int.gcd a b := Int.gcd_pos_of_ne_zero_right a (by omega)
  unfold gd
  omega
theorem gd_dvd_l (a b : Int) : gd a b ∣ a := Int.gcd_dvd_left ..
theorem gd_dvd_r (a b : Int) : gd a b ∣ b := Int.gcd_dvd_right ..
theorem cd_loop : ∀ (n : Nat) (a b : Int), 0 ≤ a → 0 ≤ b → b.natAbs < n →
    kWh (sB (s2 gNe (sV 1) (sK (.int 0)))) (kPar [0, 1] (aC (sV 1) (aC (s2 gMod (sL gInt (aC (sV 0) aN)) (sL gInt (aC (sV 1) aN))) aN))) n [.val (.int a), .val (.int b)] = some (.nx, [.val (.int (gd a b)), .val (.int 0)])
  | 0, _, _, _, _, h => by omega
  | n + 1, a, b, ha, hb, h => by
    unfold kWh
    simp only [sB, s2, sV, sK, List.getElem?_cons_zero, List.getElem?_cons_succ, gNe_int]
    by_cases e : b = 0
    · subst e
      simp [gd_zero ha]
    · have hb' : 0 < b := by omega
      simp only [e, decide_false, Bool.not_false, kPar, aC, aN, sV, s2, sL, List.getElem?_cons_zero, List.getElem?_cons_succ, gInt_int, gMod_eq hb', sets, List.set_cons_zero, List.set_cons_succ]
      have h1 := Int.emod_nonneg a (show b ≠ 0 by omega)
      have h2 := Int.emod_lt_of_pos a hb'
      rw [cd_loop n b (a % b) hb h1 (by omega), gd_step ha hb']
theorem ld_loop : ∀ (n : Nat) (a b : Int), 0 ≤ a → 0 ≤ b → b.natAbs < n →
    kWh (sB (s2 gGt (sV 1) (sK (.int 0)))) (kPar [0, 1] (aC (sV 1) (aC (s2 gMod (sL gInt (aC (sV 0) aN)) (sL gInt (aC (sV 1) aN))) aN))) n [.val (.int a), .val (.int b)] = some (.nx, [.val (.int (gd a b)), .val (.int 0)])
  | 0, _, _, _, _, h => by omega
  | n + 1, a, b, ha, hb, h => by
    unfold kWh
    simp only [sB, s2, sV, sK, List.getElem?_cons_zero, List.getElem?_cons_succ, gGt_int]
    by_cases e : b = 0
    · subst e
      simp [gd_zero ha]
    · have hb' : 0 < b := by omega
      simp only [hb', decide_true, kPar, aC, aN, sV, s2, sL, List.getElem?_cons_zero, List.getElem?_cons_succ, gInt_int, gMod_eq hb', sets, List.set_cons_zero, List.set_cons_succ]
      have h1 := Int.emod_nonneg a (show b ≠ 0 by omega)
      have h2 := Int.emod_lt_of_pos a hb'
      rw [ld_loop n b (a % b) hb h1 (by omega), gd_step ha hb']
theorem ll_loop (x y : Sl) : ∀ (n : Nat) (a b : Int), 0 ≤ a → 0 ≤ b → b.natAbs < n →
    kWh (sB (s2 gGt (sV 3) (sK (.int 0)))) (kPar [2, 3] (aC (sV 3) (aC (s2 gMod (sL gInt (aC (sV 2) aN)) (sL gInt (aC (sV 3) aN))) aN))) n [x, y, .val (.int a), .val (.int b)] = some (.nx, [x, y, .val (.int (gd a b)), .val (.int 0)])
  | 0, _, _, _, _, h => by omega
  | n + 1, a, b, ha, hb, h => by
    unfold kWh
    simp only [sB, s2, sV, sK, List.getElem?_cons_zero, List.getElem?_cons_succ, gGt_int]
    by_cases e : b = 0
    · subst e
      simp [gd_zero ha]
    · have hb' : 0 < b := by omega
      simp only [hb', decide_true, kPar, aC, aN, sV, s2, sL, List.getElem?_cons_zero, List.getElem?_cons_succ, gInt_int, gMod_eq hb', sets, List.set_cons_zero, List.set_cons_succ]
      have h1 := Int.emod_nonneg a (show b ≠ 0 by omega)
      have h2 := Int.emod_lt_of_pos a hb'
      rw [ll_loop x y n b (a % b) hb h1 (by omega), gd_step ha hb']
/-- a fraction in lowest terms -/
def ab (a : Int) : Int := if a < 0 then -a else a
theorem ab_nonneg (a : Int) : 0 ≤ ab a := by unfold ab; split <;> omega
def lowD (a b : Int) : D := .tup [.int (a / gd (ab a) b), .int (b / gd (ab a) b)]
theorem gd_le {a b : Int} (hb : 0 < b) : gd a b ≤ b := Int.le_of_dvd hb (gd_dvd_r a b)
theorem gd_sm {k : Nat} {a b : Int} (hb : 0 < b) (h : Sm k b) : Sm k (gd a b) := by
  have h1 := gd_le (a := a) hb
  have h2 := gd_pos (a := a) hb
  unfold Sm at *
  omega
theorem gAbs_int {a : Int} : gAbs [.int a] = some (.int (ab a)) := rfl
theorem gTup2 {a b : D} : VS.gTup [a, b] = some (.tup [a, b]) := by
  unfold VS.gTup
  rw [if_pos (by show 2 ≤ 1000000; decide)]
end Toy

set_option Elab.async false
set_option linter.all false
set_option maxRecDepth 100000
set_option maxHeartbeats 8000000
namespace Toy
open PySem PySem.Spec PyProof.Rows L2 VS
/-! the purse of draws -/
def PuB (k : Nat) (xs : List D) : Prop := ∃ a b c : Int, xs = [.int a, .int b, .int c] ∧ 0 ≤ a ∧ Sm 1400 a ∧ 0 ≤ b ∧ b < 2147483629 ∧ 0 ≤ c ∧ c ≤ (k : Int)
theorem PuB.mono {k n : Nat} {xs : List D} (h : PuB k xs) (l : k ≤ n) : PuB n xs := by
  obtain ⟨a, b, c, e, h1, h2, h3, h4, h5, h6⟩ := h
  exact ⟨a, b, c, e, h1, h2, h3, h4, h5, by omega⟩
theorem sm_of {k : Nat} {i : Int} (h0 : 0 ≤ i) (h : i < 2 ^ k) : Sm k i := by
  unfold Sm
  have : ((i.natAbs : Nat) : Int) < ((2 ^ k : Nat) : Int) := by
    rw [Int.natAbs_of_nonneg h0]
    push_cast
    exact h
  exact_mod_cast this
theorem sm_mod {k : Nat} {i j : Int} (h0 : 0 < j) (h : j ≤ 2 ^ k) : Sm k (i % j) := sm_of (Int.emod_nonneg i (by omega)) (by have := Int.emod_lt_of_pos i h0; omega)
theorem atI0 {a b c : D} : L2.atI [a, b, c] 0 = some a := rfl
theorem atI1 {a b c : D} : L2.atI [a, b, c] 1 = some b := rfl
theorem atI2 {a b c : D} : L2.atI [a, b, c] 2 = some c := rfl
theorem ixN0 : ixN 3 0 = some 0 := rfl
theorem ixN2 : ixN 3 2 = some 2 := rfl
theorem law_draw_eq {k : Nat} {xs : List D} {m : Int} (h : PuB k xs) (hk : k ≤ 1000000) (hm : 0 < m) (hs : Sm 3000 m) :
    ∃ d ys, m_law_draw [.bor xs, .val (.int m)] = some (.int d, ys) ∧ 0 ≤ d ∧ d < m ∧ PuB (k + 1) ys := by
  obtain ⟨a, b, c, rfl, ha, sa, hb, hb2, hc, hc2⟩ := h
  have bm := hs.bd (by decide)
  by_cases z : 0 < a
  · refine ⟨a % m, [.int (a / m), .int b, .int c], ?_, Int.emod_nonneg _ (by omega), Int.emod_lt_of_pos _ hm, _, _, _, rfl, Int.ediv_nonneg ha (by omega), ?_, hb, hb2, hc, by omega⟩
    · simp only [m_law_draw, b_law_draw, mir, List.length_cons, List.length_nil, Nat.zero_add, Nat.reduceAdd, Nat.reduceSub, List.cons_append, List.nil_append, List.replicate, kS, kIf, sB, s2, sL, aC, aN, sIxM, conM, sK, sV, List.getElem?_cons_zero, List.getElem?_cons_succ, atI0, gGt_int, z, decide_true, kSet, gInt_int, gMod_eq hm, List.set_cons_zero, List.set_cons_succ, kPut, gFdiv_eq hm bm, ixN0, setM, kRet, outOf]
    · have h1 := Int.ediv_le_self m ha
      have h2 : 0 ≤ a / m := Int.ediv_nonneg ha (by omega)
      unfold Sm at *
      omega
  · have st : Sm 21 (c + 1) := sm_of (by omega) (by omega)
    have sb : Sm 31 b := sm_of hb (by omega)
    have s1 : Sm 17 (104729 : Int) := sm_of (by decide) (by decide)
    have s3 : Sm 38 (104729 * (c + 1)) := s1.mul st
    have s4 : Sm 39 (b + 104729 * (c + 1)) := sb.add' s3 (by decide) (by decide)
    have s5 : Sm 42 ((c + 1) * (c + 1)) := st.mul st
    have s6 : Sm 43 ((c + 1) * (c + 1) + 7919) := s5.add' (sm_of (k := 13) (by decide) (by decide)) (by decide) (by decide)
    obtain ⟨u, hu⟩ : ∃ u, u = (b + 104729 * (c + 1)) * ((c + 1) * (c + 1) + 7919) % 2147483629 := ⟨_, rfl⟩
    have su : Sm 31 u := by rw [hu]; exact sm_mod (by decide) (by decide)
    obtain ⟨v, hv⟩ : ∃ v, v = (u * u + (c + 1)) % 2147483587 := ⟨_, rfl⟩
    have sv : Sm 31 v := by rw [hv]; exact sm_mod (by decide) (by decide)
    refine ⟨v * 48271 % 2147483647 / 64 % m, [.int a, .int b, .int (c + 1)], ?_, Int.emod_nonneg _ (by omega), Int.emod_lt_of_pos _ hm, _, _, _, rfl, ha, sa, hb, hb2, by omega, by omega⟩
    have b1 := s1.bd (by decide)
    have b2 := st.bd (by decide)
    have b3 := s4.bd (by decide)
    have b4 := s6.bd (by decide)
    have b5 := su.bd (by decide)
    have b6 := sv.bd (by decide)
    have b7 : Bd 48271 := (sm_of (k := 20) (by decide) (by decide) : Sm 20 48271).bd (by decide)
    have b8 : Bd 64 := (sm_of (k := 20) (by decide) (by decide) : Sm 20 64).bd (by decide)
    have p1 : (0 : Int) < 2147483629 := by decide
    have p2 : (0 : Int) < 2147483587 := by decide
    have p3 : (0 : Int) < 2147483647 := by decide
    have p4 : (0 : Int) < 64 := by decide
    simp only [m_law_draw, b_law_draw, mir, List.length_cons, List.length_nil, Nat.zero_add, Nat.reduceAdd, Nat.reduceSub, List.cons_append, List.nil_append, List.replicate, kS, kIf, sB, s2, sL, aC, aN, sIxM, conM, sK, sV, List.getElem?_cons_zero, List.getElem?_cons_succ, atI0, atI1, atI2, gGt_int, z, decide_false, kSet, kN, gInt_int, gAdd_eq, List.set_cons_zero, List.set_cons_succ, kPut, ixN2, setM, gMul_eq b1 b2, gMul_eq b2 b2, gMul_eq b3 b4, gMod_eq p1, ← hu, gMul_eq b5 b5, gMod_eq p2, ← hv, gMul_eq b6 b7, gMod_eq p3, gFdiv_eq p4 b8, gMod_eq hm, kRet, outOf]
theorem law_pick_eq {k : Nat} {xs : List D} {its : List D} (h : PuB k xs) (hk : k ≤ 1000000) (hl : 0 < its.length) (hl2 : its.length < 1000000) :
    ∃ (d : Nat) (x : D) (ys : List D), m_law_pick [.bor xs, .val (.lst its)] = some (x, ys) ∧ its[d]? = some x ∧ PuB (k + 1) ys := by
  obtain ⟨d, ys, e, h0, h1, hp⟩ := law_draw_eq (m := its.length) h hk (by omega) ((sm_of (k := 20) (by omega) (by omega)).mono (by decide))
  obtain ⟨n, rfl⟩ := Int.eq_ofNat_of_zero_le h0
  have hn : n < its.length := by omega
  refine ⟨n, its[n], ys, ?_, by simp [hn], hp⟩
  obtain ⟨a, b, c, rfl, _⟩ := h
  have e2 : its[n]? = some its[n] := by simp [hn]
  have e3 : gLen [.lst its] = some (.int its.length) := rfl
  simp only [m_law_pick, b_law_pick, mir, List.length_cons, List.length_nil, Nat.zero_add, Nat.reduceAdd, Nat.reduceSub, List.cons_append, List.nil_append, List.replicate, kRet, s2, sV, sCallM, conM, aC, aN, sL, e3, List.map_cons, List.map_nil, List.getElem?_cons_zero, List.getElem?_cons_succ, if_true, e, setM, List.set_cons_zero, gIx_lst, atI_nat, e2, outOf]
theorem pow_a : gPow (.int 10) (.int 18) = some (.int (10 ^ 18)) := by kernel_rfl
theorem pow_b : gPow (.int 10) (.int 40) = some (.int (10 ^ 40)) := by kernel_rfl
theorem pow_c : gPow (.int (10 ^ 40)) (.int 10) = some (.int (10 ^ 400)) := by kernel_rfl
theorem gMax2 {i j : Int} : gMax [.int i, .int j] = some (.int (if j > i then j else i)) := rfl
theorem purse_tail (cell : Int) : ∃ x y : Int, (∀ ρ : Rho, ρ[2]? = some (.val (.int cell)) → kRetL (aC (s2 gMod (sL gInt (aC (sL gMax (aC (s2 gSub (sV 2) (s2 gPow (sK (.int 10)) (sK (.int 18)))) (aC (sK (.int 0)) aN))) aN)) (s2 gPow (s2 gPow (sK (.int 10)) (sK (.int 40))) (sK (.int 10)))) (aC (s2 gMod (sL gInt (aC (sV 2) aN)) (sK (.int 2147483629))) (aC (sK (.int 0)) aN))) ρ = some (.rm [.int x, .int y, .int 0], ρ)) ∧ PuB 0 [.int x, .int y, .int 0] := by
  have p0 : (0 : Int) < 10 ^ 400 := by decide +kernel
  have p1 : (0 : Int) < 2147483629 := by decide
  have p2 : (10 : Int) ^ 400 ≤ 2 ^ 1400 := by decide +kernel
  refine ⟨(if 0 > cell - 10 ^ 18 then 0 else cell - 10 ^ 18) % 10 ^ 400, cell % 2147483629, fun ρ h => ?_, _, _, _, rfl, Int.emod_nonneg _ (by omega), sm_mod p0 p2, Int.emod_nonneg _ (by decide), Int.emod_lt_of_pos _ p1, by decide, by decide⟩
  simp only [kRetL, aC, aN, sL, s2, sV, sK, h, pow_a, pow_b, pow_c, gSub_eq, gMax2, gInt_int, gMod_eq p0, gMod_eq p1, List.length_cons, List.length_nil]
  rw [if_pos (by show 3 ≤ 1000000; decide)]
theorem law_purse_eq (ns : List Int) (i : Nat) : ∃ xs, m_law_purse [.val (.scr (ns.map .int)), .val (.int i)] = some xs ∧ PuB 0 xs := by
  have e3 : gLen [.scr (ns.map .int)] = some (.int ns.length) := by
    show some (D.int ((ns.map D.int).length : Int)) = _
    rw [List.length_map]
  by_cases z : (i : Int) < ns.length
  · have hi : i < ns.length := by omega
    obtain ⟨x, y, h, hp⟩ := purse_tail ns[i]
    have e2 : (ns.map D.int)[i]? = some (.int ns[i]) := by simp [hi]
    refine ⟨_, ?_, hp⟩
    simp only [m_law_purse, b_law_purse, mirM, List.length_cons, List.length_nil, Nat.zero_add, Nat.reduceAdd, Nat.reduceSub, List.cons_append, List.nil_append, List.replicate, kS, kSet, kIf, sB, s2, sL, aC, aN, sK, sV, List.getElem?_cons_zero, List.getElem?_cons_succ, List.set_cons_zero, List.set_cons_succ, e3, gLt_int, z, decide_true]
    have e4 : gIx (.scr (ns.map .int)) (.int i) = some (.int ns[i]) := by
      show L2.atI (ns.map D.int) (i : Int) = _
      rw [atI_nat, e2]
    simp only [e4, List.set_cons_zero, List.set_cons_succ]
    have h' := h [Sl.val (D.scr (ns.map .int)), Sl.val (D.int i), Sl.val (D.int ns[i])] rfl
    simp only [kRetL, aC, aN, sL, s2, sV, sK] at h' ⊢
    rw [h']
  · obtain ⟨x, y, h, hp⟩ := purse_tail 0
    refine ⟨_, ?_, hp⟩
    simp only [m_law_purse, b_law_purse, mirM, List.length_cons, List.length_nil, Nat.zero_add, Nat.reduceAdd, Nat.reduceSub, List.cons_append, List.nil_append, List.replicate, kS, kSet, kIf, kN, sB, s2, sL, aC, aN, sK, sV, List.getElem?_cons_zero, List.getElem?_cons_succ, List.set_cons_zero, List.set_cons_succ, e3, gLt_int, z, decide_false]
    have h' := h [Sl.val (D.scr (ns.map .int)), Sl.val (D.int i), Sl.val (D.int 0)] rfl
    simp only [kRetL, aC, aN, sL, s2, sV, sK] at h' ⊢
    rw [h']
end Toy

set_option Elab.async false
set_option linter.all false
set_option maxRecDepth 100000
set_option maxHeartbeats 1000000
namespace Toy
open PySem PySem.Spec PyProof.Rows L2 VS
/-! k01: exceptions tell their value -/
theorem kS_nx {a b : SS} {ρ ρ1 : Rho} {r : Option (Fl × Rho)} (h : a ρ = some (.nx, ρ1)) (h2 : b ρ1 = r) : kS a b ρ = r := by
  unfold kS; rw [h]; exact h2
theorem kIf_f {t : SB} {a b : SS} {ρ ρ1 : Rho} {r : Option (Fl × Rho)} (h : t ρ = some (false, ρ1)) (h2 : b ρ1 = r) : kIf t a b ρ = r := by
  unfold kIf; rw [h]; exact h2
theorem sB_of {s : SE} {ρ ρ1 : Rho} {b : Bool} (h : s ρ = some (.bl b, ρ1)) : sB s ρ = some (b, ρ1) := by
  unfold sB; rw [h]
theorem s2_of {g : G2} {a b : SE} {ρ ρ1 ρ2 : Rho} {x y d : D} (h : a ρ = some (x, ρ1)) (h2 : b ρ1 = some (y, ρ2)) (hg : g x y = some d) : s2 g a b ρ = some (d, ρ2) := by
  unfold s2; simp only [h, h2, hg]
theorem sL_of {g : GL} {a : SA} {ρ ρ1 : Rho} {xs : List D} {d : D} (h : a ρ = some (xs, ρ1)) (hg : g xs = some d) : sL g a ρ = some (d, ρ1) := by
  unfold sL; simp only [h, hg]
def exL (g : D) : List D := [.exc 0 g, .exc 1 g, .exc 2 g, .exc 3 g, .exc 4 g, .exc 5 g, .exc 6 g, .exc 7 g]
theorem told_eq (g : D) : (kSet 2 (sComp (iSeq (sV 0)) (.nm 3) bYes (s1 (gExV xvs) (sV 3)))) [.val (.lst (exL g)), .val g, .no, .no, .no] = some (.nx, [.val (.lst (exL g)), .val g, .val (.lst [g, g, g, g, g, g, g, g]), .no, .no]) := by kernel_rfl
theorem ends_eq (g : D) : (kRet (s2 gEq (sComp (iSeq (sV 0)) (.nm 3) bYes (sCall 1 m_law_classes (aC (sV 3) aN))) (sComp (iR (aC (sL gLen (aC (sV 0) aN)) aN)) (.nm 4) bYes (sL gLst (aC (sV 4) aN))))) [.val (.lst (exL g)), .val g, .val (.lst [g, g, g, g, g, g, g, g]), .no, .no] = some (.rt (.bl true), [.val (.lst (exL g)), .val g, .val (.lst [g, g, g, g, g, g, g, g]), .no, .no]) := by kernel_rfl
theorem list_len (ts : List Str) : (listText ts).length ≤ (ts.map (·.length)).sum + 2 * ts.length + 2 := by
  show (textFrom 0 "[" ts ++ "]").length ≤ _
  rw [strLen_append]
  have h := textFrom_len_le ts 0 "["
  have a : ((("[" : String) : Str)).length = 1 := rfl
  have b : ((("]" : String) : Str)).length = 1 := rfl
  rw [a] at h
  rw [b]
  omega
/-- it can be shown -/
def OptS (g : D) : Prop := ∃ t, shD oNo g = some t ∧ t.length ≤ 4000 ∧ dpD g ≤ 10
theorem ne_str (T : Str) : gNe (.str T) (.str T) = some (.bl false) := by
  simp [gNe, eqD, scalE]
theorem right_eq {g : D} (O : OptS g) : m_law_right [.val (.lst (exL g)), .val g] = some (.bl true, []) := by
  obtain ⟨t, h, hl, hd⟩ := O
  have e : shD oNo (.lst [g, g, g, g, g, g, g, g]) = some (listText [t, t, t, t, t, t, t, t]) := by simp only [shD, shDs, h]
  have ln : (listText [t, t, t, t, t, t, t, t]).length ≤ LN := by
    have := list_len [t, t, t, t, t, t, t, t]
    simp only [List.map_cons, List.map_nil, List.sum_cons, List.sum_nil, List.length_cons, List.length_nil] at this
    show _ ≤ 1000000
    omega
  have dp : dpD (.lst [g, g, g, g, g, g, g, g]) ≤ 50 := by
    simp only [dpD, dpDs]
    omega
  have sh8 : gShow oNo [.lst [g, g, g, g, g, g, g, g]] = some (.str (listText [t, t, t, t, t, t, t, t])) := by
    unfold gShow
    simp only [e]
    rw [if_pos ⟨ln, dp⟩]
  have ha : (sL (gShow oNo) (aC (sV 2) aN)) [.val (.lst (exL g)), .val g, .val (.lst [g, g, g, g, g, g, g, g]), .no, .no] = some ((.str (listText [t, t, t, t, t, t, t, t])), [.val (.lst (exL g)), .val g, .val (.lst [g, g, g, g, g, g, g, g]), .no, .no]) := sL_of (xs := [.lst [g, g, g, g, g, g, g, g]]) rfl sh8
  have hb : (sL (gShow oNo) (aC (s2 gRepL (sL VS.gLst (aC (sV 1) aN)) (sL gLen (aC (sV 0) aN))) aN)) [.val (.lst (exL g)), .val g, .val (.lst [g, g, g, g, g, g, g, g]), .no, .no] = some ((.str (listText [t, t, t, t, t, t, t, t])), [.val (.lst (exL g)), .val g, .val (.lst [g, g, g, g, g, g, g, g]), .no, .no]) := sL_of (xs := [.lst [g, g, g, g, g, g, g, g]]) (by kernel_rfl) sh8
  have t1 : (sB (s2 gNe (sL (gShow oNo) (aC (sV 2) aN)) (sL (gShow oNo) (aC (s2 gRepL (sL VS.gLst (aC (sV 1) aN)) (sL gLen (aC (sV 0) aN))) aN)))) [.val (.lst (exL g)), .val g, .val (.lst [g, g, g, g, g, g, g, g]), .no, .no] = some (false, [.val (.lst (exL g)), .val g, .val (.lst [g, g, g, g, g, g, g, g]), .no, .no]) := sB_of (s2_of ha hb (ne_str _))
  have b : b_law_right [.val (.lst (exL g)), .val g, .no, .no, .no] = some (.rt (.bl true), [.val (.lst (exL g)), .val g, .val (.lst [g, g, g, g, g, g, g, g]), .no, .no]) := kS_nx (told_eq g) (kS_nx (kIf_f t1 rfl) (ends_eq g))
  unfold m_law_right mir
  simp only [List.length_cons, List.length_nil, Nat.zero_add, Nat.reduceAdd, Nat.reduceSub, List.cons_append, List.nil_append, List.replicate, b, outOf]
/-! the statements, one by one -/
section
variable (s p n : Sl) (g : D)
theorem st4 : hb_4 [s, p, n, .val g, .no, .no, .no] = some (.nx, [s, p, n, .val g, .val (.lst [.exc 0 g, .exc 1 g, .exc 2 g, .exc 3 g, .exc 4 g]), .no, .no]) := by kernel_rfl
theorem st5 : hb_5 [s, p, n, .val g, .val (.lst [.exc 0 g, .exc 1 g, .exc 2 g, .exc 3 g, .exc 4 g]), .no, .no] = some (.nx, [s, p, n, .val g, .val (.lst (exL g)), .no, .no]) := by kernel_rfl
theorem st6 : hb_6 [s, p, n, .val g, .val (.lst (exL g)), .no, .no] = some (.nx, [s, p, n, .val g, .val (.lst (exL g)), .own [.exc 0 g, .exc 1 g, .exc 2 g, .exc 3 g], .no]) := by kernel_rfl
theorem st7 : hb_7 [s, p, n, .val g, .val (.lst (exL g)), .own [.exc 0 g, .exc 1 g, .exc 2 g, .exc 3 g], .no] = some (.nx, [s, p, n, .val g, .val (.lst (exL g)), .own [.exc 0 g, .exc 1 g, .exc 2 g, .exc 3 g, .exc 4 g, .exc 5 g, .exc 6 g], .no]) := by kernel_rfl
theorem st8 : hb_8 [s, p, n, .val g, .val (.lst (exL g)), .own [.exc 0 g, .exc 1 g, .exc 2 g, .exc 3 g, .exc 4 g, .exc 5 g, .exc 6 g], .no] = some (.nx, [s, p, n, .val g, .val (.lst (exL g)), .own (exL g), .no]) := by kernel_rfl
theorem st9 : hb_9 [s, p, n, .val g, .val (.lst (exL g)), .own (exL g), .no] = some (.nx, [s, p, n, .val g, .val (.lst (exL g)), .own (exL g), .own [.exc 0 .non, .exc 1 .non, .exc 2 .non, .exc 3 .non, .exc 4 .non, .exc 5 .non, .exc 6 .non]]) := by kernel_rfl
theorem st10 : hb_10 [s, p, n, .val g, .val (.lst (exL g)), .own (exL g), .own [.exc 0 .non, .exc 1 .non, .exc 2 .non, .exc 3 .non, .exc 4 .non, .exc 5 .non, .exc 6 .non]] = some (.nx, [s, p, n, .val g, .val (.lst (exL g)), .own (exL g), .own (exL .non)]) := by kernel_rfl
end
/-! what is given -/
def Opt (g : D) : Prop := OptS g ∧ (gIsTy2 3 g = some (.bl false) ∨ ∃ xs, g = .lst xs ∧ gIsTy2 3 g = some (.bl true) ∧ xs.length ≤ 2 ∧ noLs xs.length xs = true ∧ OptS (.lst (xs ++ [.str "more"])))
theorem int_show {i : Int} (h : Sm 400 i) : ∃ t, shD oNo (.int i) = some t ∧ t.length ≤ 1921 := by
  have hl : i.natAbs.log2 < 1920 := PySem.Flt.log2_lt_of (by decide) (Nat.lt_of_lt_of_le h (Nat.pow_le_pow_right (by decide) (by decide)))
  refine ⟨Str.ofString (toString i), ?_, ?_⟩
  · show (if i.natAbs.log2 < 1920 then some _ else none) = _
    rw [if_pos hl]
  · have e := PySem.int_text_length_le (k := 1920) (by decide) hl
    rw [PySem.ofString_length]
    exact e
theorem opt_int {i : Int} (h : Sm 400 i) : Opt (.int i) := by
  obtain ⟨t, h1, h2⟩ := int_show h
  exact ⟨⟨t, h1, by omega, by show 0 ≤ 10; omega⟩, .inl rfl⟩
theorem sh1 {d : D} {t : Str} (h : shD oNo d = some t) : shD oNo (.lst [d]) = some (listText [t]) := by
  simp only [shD, shDs, h]
theorem sh2 {d e : D} {t u : Str} (h : shD oNo d = some t) (h2 : shD oNo e = some u) : shD oNo (.lst [d, e]) = some (listText [t, u]) := by
  simp only [shD, shDs, h, h2]
theorem opt_ints {i : Int} (h : Sm 400 i) : Opt (.lst [.int i]) := by
  obtain ⟨t, h1, h2⟩ := int_show h
  refine ⟨⟨listText [t], sh1 h1, ?_, by simp only [dpD, dpDs]; omega⟩, .inr ⟨_, rfl, rfl, by simp, rfl, listText [t, reprText "more"], sh2 h1 rfl, ?_, by show dpD (.lst [.int i, .str "more"]) ≤ 10; simp only [dpD, dpDs]; omega⟩⟩
  · have := list_len [t]
    simp only [List.map_cons, List.map_nil, List.sum_cons, List.sum_nil, List.length_cons, List.length_nil] at this
    omega
  · have := list_len [t, reprText "more"]
    have z : (reprText "more").length = 6 := by decide +kernel
    simp only [List.map_cons, List.map_nil, List.sum_cons, List.sum_nil, List.length_cons, List.length_nil, z] at this
    omega
theorem repx {k : Nat} (h : k < 9) : gRepS (.str "x") (.int (k : Nat)) = some (.str (repS "x" (k : Nat))) ∧ (reprText (repS "x" (k : Nat))).length ≤ 20 := by
  have z : ((List.range 9).all fun n : Nat => decide ((reprText (repS "x" (n : Nat))).length ≤ 20)) = true := by decide +kernel
  refine ⟨?_, of_decide_eq_true (List.all_eq_true.mp z k (List.mem_range.mpr h))⟩
  match k, h with
  | 0, _ => kernel_rfl
  | 1, _ => kernel_rfl
  | 2, _ => kernel_rfl
  | 3, _ => kernel_rfl
  | 4, _ => kernel_rfl
  | 5, _ => kernel_rfl
  | 6, _ => kernel_rfl
  | 7, _ => kernel_rfl
  | 8, _ => kernel_rfl
theorem opt_nest : Opt (.lst [.lst [], .lst [.str "a"]]) :=
  ⟨⟨_, rfl, by decide +kernel, by decide⟩, .inr ⟨_, rfl, rfl, by decide, rfl, _, rfl, by decide +kernel, by decide⟩⟩
/-- the purse, the number, what is given -/
theorem st1 (ns : List Int) (a b c d e : Sl) : ∃ xs, hb_1 [.val (.scr (ns.map .int)), .no, a, b, c, d, e] = some (.nx, [.val (.scr (ns.map .int)), .own xs, a, b, c, d, e]) ∧ PuB 0 xs := by
  obtain ⟨xs, h, hp⟩ := law_purse_eq ns 0
  refine ⟨xs, ?_, hp⟩
  have h' : m_law_purse [.val (.scr (ns.map .int)), .val (.int 0)] = some xs := h
  simp only [hb_1, kOwnC, aC, aN, sV, sK, List.getElem?_cons_zero, List.map_cons, List.map_nil, List.length_cons, List.length_nil, h', List.set_cons_zero, List.set_cons_succ]
  rfl
theorem st2 {xs : List D} (hp : PuB 0 xs) (s a b c d : Sl) : ∃ (ys : List D) (n : Int), hb_2 [s, .own xs, .no, a, b, c, d] = some (.nx, [s, .own ys, .val (.int n), a, b, c, d]) ∧ PuB 2 ys ∧ Sm 399 n := by
  have p6 : gPow (.int 10) (.int 6) = some (.int (10 ^ 6)) := by kernel_rfl
  have p33 : gPow (.int 10) (.int 33) = some (.int (10 ^ 33)) := by kernel_rfl
  have s6 : Sm 3000 ((10 : Int) ^ 6) := (sm_of (k := 20) (by decide) (by decide)).mono (by decide)
  obtain ⟨d1, ys, e1, g0, g1, hp1⟩ := law_draw_eq (m := 10 ^ 6) hp (by decide) (by decide) s6
  obtain ⟨d2, zs, e2, k0, k1, hp2⟩ := law_draw_eq (m := 10 ^ 6) hp1 (by decide) (by decide) s6
  have sd : Sm 20 d1 := sm_of g0 (Int.lt_of_lt_of_le g1 (by decide))
  have sd2 : Sm 20 d2 := sm_of k0 (Int.lt_of_lt_of_le k1 (by decide))
  have s33 : Sm 110 ((10 : Int) ^ 33) := sm_of (by decide) (by decide)
  refine ⟨zs, d1 * 10 ^ 33 + d2, ?_, hp2, ((sd.mul s33).add' sd2 (e := 140) (by decide) (by decide)).mono (by decide)⟩
  simp only [hb_2, kSet, s2, sCallM, conM, aC, aN, sK, p6, p33, List.getElem?_cons_zero, List.getElem?_cons_succ, List.map_cons, List.map_nil, List.length_cons, List.length_nil, Nat.zero_add, Nat.reduceAdd, if_true, e1, e2, setM, List.set_cons_zero, List.set_cons_succ, gMul_eq (sd.bd (by decide)) (s33.bd (by decide)), gAdd_eq]
theorem st3 {xs : List D} (hp : PuB 2 xs) {n : Int} (hn : Sm 399 n) (s b c d : Sl) : ∃ (ys : List D) (g : D), hb_3 [s, .own xs, .val (.int n), .no, b, c, d] = some (.nx, [s, .own ys, .val (.int n), .val g, b, c, d]) ∧ Opt g := by
  obtain ⟨d1, ys, e1, g0, g1, hp1⟩ := law_draw_eq (m := 9) hp (by decide) (by decide) ((sm_of (k := 20) (by decide) (by decide)).mono (by decide))
  obtain ⟨k, rfl⟩ := Int.eq_ofNat_of_zero_le g0
  obtain ⟨r1', r2⟩ := repx (k := k) (by omega)
  have hm : Sm 400 (0 - n) := (sm_of (k := 1) (by decide) (by decide) : Sm 1 0).sub' hn (by decide) (by decide)
  obtain ⟨dd, x, zs, e2, e3, hp2⟩ := law_pick_eq (its := [.non, .bl true, .int n, .int (0 - n), .str (repS "x" (k : Nat)), .tup [], .lst [.int n], .lst [.lst [], .lst [.str "a"]], .dct false [] []]) hp1 (by decide) (by simp) (by simp)
  refine ⟨zs, x, ?_, ?_⟩
  · have l0 : ∀ l : List D, l.length ≤ 9 → VS.gLst l = some (.lst l) := fun l h => if_pos (Nat.le_trans h (by decide))
    have t0 : VS.gTup ([] : List D) = some (.tup []) := rfl
    have a1 : VS.gLst ([] : List D) = some (.lst []) := l0 _ (by decide)
    have a2 : VS.gLst [D.str "a"] = some (.lst [.str "a"]) := l0 _ (by simp)
    have a3 : VS.gLst [D.int n] = some (.lst [.int n]) := l0 _ (by simp)
    have a4 : VS.gLst [D.lst [], D.lst [.str "a"]] = some (.lst [.lst [], .lst [.str "a"]]) := l0 _ (by simp)
    have a5 := l0 [D.non, .bl true, .int n, .int (0 - n), .str (repS "x" (k : Nat)), .tup [], .lst [.int n], .lst [.lst [], .lst [.str "a"]], .dct false [] []] (by simp)
    simp only [hb_3, kSet, s2, sL, sCallM, conM, aC, aN, sK, sV, List.getElem?_cons_zero, List.getElem?_cons_succ, List.map_cons, List.map_nil, List.length_cons, List.length_nil, Nat.zero_add, Nat.reduceAdd, if_true, gSub_eq, e1, setM, List.set_cons_zero, List.set_cons_succ, r1', t0, a1, a2, a3, a4, a5, e2]
  · have hx := List.mem_of_getElem? e3
    simp only [List.mem_cons, List.not_mem_nil, or_false] at hx
    have hn' := hn.mono (d := 400) (by decide)
    rcases hx with rfl | rfl | rfl | rfl | rfl | rfl | rfl | rfl | rfl
    · exact ⟨⟨_, rfl, by decide +kernel, by decide⟩, .inl rfl⟩
    · exact ⟨⟨_, rfl, by decide +kernel, by decide⟩, .inl rfl⟩
    · exact opt_int hn'
    · exact opt_int hm
    · exact ⟨⟨_, rfl, Nat.le_trans r2 (by decide), by simp only [dpD]; omega⟩, .inl rfl⟩
    · exact ⟨⟨_, rfl, by decide +kernel, by decide⟩, .inl rfl⟩
    · exact opt_ints hn'
    · exact opt_nest
    · exact ⟨⟨_, rfl, by decide +kernel, by decide⟩, .inl rfl⟩
/-! the law's own body -/
theorem sCall_of {n : Nat} {m : Mir} {a : SA} {ρ ρ1 : Rho} {xs : List D} {d : D} {o : List D} (h : a ρ = some (xs, ρ1)) (hn : xs.length = n) (hm : m (xs.map .val) = some (d, o)) : sCall n m a ρ = some (d, ρ1) := by
  unfold sCall
  rw [h]
  dsimp only
  rw [if_pos hn, hm]
theorem bNot_of {a : SB} {ρ ρ1 : Rho} {b : Bool} (h : a ρ = some (b, ρ1)) : bNot a ρ = some (!b, ρ1) := by unfold bNot; rw [h]
theorem bOr_f {a b : SB} {ρ ρ1 : Rho} {r : Option (Bool × Rho)} (h : a ρ = some (false, ρ1)) (h2 : b ρ1 = r) : bOr a b ρ = r := by unfold bOr; rw [h]; exact h2
theorem sAnd_t {a b : SE} {ρ ρ1 : Rho} {r : Option (D × Rho)} (h : a ρ = some (.bl true, ρ1)) (h2 : b ρ1 = r) : sAnd a b ρ = r := by unfold sAnd; rw [h]; exact h2
theorem kRet_of {e : SE} {ρ ρ1 : Rho} {d : D} (h : e ρ = some (d, ρ1)) : kRet e ρ = some (.rt d, ρ1) := by unfold kRet; rw [h]
theorem opt_non : OptS .non := ⟨_, rfl, by decide +kernel, by decide⟩
theorem test_eq {g : D} (O : OptS g) (s p n : Sl) : hb_11 [s, p, n, .val g, .val (.lst (exL g)), .val (.lst (exL g)), .val (.lst (exL .non))] = some (false, [s, p, n, .val g, .val (.lst (exL g)), .val (.lst (exL g)), .val (.lst (exL .non))]) :=
  bOr_f (bNot_of (sB_of (sCall_of (xs := [.lst (exL g), g]) rfl rfl (right_eq O)))) (bOr_f (bNot_of (sB_of (sCall_of (xs := [.lst (exL g), g]) rfl rfl (right_eq O)))) (bNot_of (sB_of (sCall_of (xs := [.lst (exL .non), .non]) rfl rfl (right_eq opt_non)))))
theorem again_eq {g : D} (O : OptS g) (s p n b : Sl) : hb_14 [s, p, n, .val g, .val (.lst (exL g)), .val (.lst (exL g)), b] = some (.rt (.bl true), [s, p, n, .val g, .val (.lst (exL g)), .val (.lst (exL g)), b]) :=
  kRet_of (sAnd_t (sCall_of (xs := [.lst (exL g), g]) rfl rfl (right_eq O)) (sCall_of (xs := [.lst (exL g), g]) rfl rfl (right_eq O)))
section
variable {G : Gx} {c : VS.Ctx} {F H : Hp} {σ : L2.St} {ρ ρ' : Rho} {E : Ends} {R t : TS}
theorem seq_go {m : SS} (hc : c.G = G) (I : Ok c F H σ ρ) (e : m ρ = some (.nx, ρ')) (k : ∀ σ1 H1 F1, Ext F F1 → Ok c F1 H1 σ1 ρ' → R E σ1 H1) : tSeq (vsQ G m) R E σ H := ⟨c, hc, F, ρ, I, .nx, ρ', e, k⟩
theorem if_no {m : SB} (hc : c.G = G) (I : Ok c F H σ ρ) (e : m ρ = some (false, ρ')) (k : ∀ H1 F1, Ext F F1 → Ok c F1 H1 σ ρ' → R E σ H1) : tSeq (tIfS (vbQ G m) t tNext) R E σ H := ⟨c, hc, F, ρ, I, false, ρ', e, fun H1 F1 x I1 => iteF (k H1 F1 x I1)⟩
theorem if_yes {m : SB} (hc : c.G = G) (I : Ok c F H σ ρ) (e : m ρ = some (true, ρ')) (k : ∀ H1 F1, Ext F F1 → Ok c F1 H1 σ ρ' → t { E with nx := R E } σ H1) : tSeq (tIfS (vbQ G m) t tNext) R E σ H := ⟨c, hc, F, ρ, I, true, ρ', e, fun H1 F1 x I1 => iteT (k H1 F1 x I1)⟩
theorem exs_conv {d d' : D} (h : ∀ v, Rep G F v d → Rep G F v d') : ∀ (ks : List Nat) {us : List V}, Reps G F us (ks.map fun k => .exc k d) → Reps G F us (ks.map fun k => .exc k d')
  | [], _, r => by cases r; exact .nil
  | k :: ks, _, r => by
    cases r with
    | cons a b =>
      cases a with
      | exc h1 h2 r1 => exact .cons (.exc h1 h2 (h _ r1)) (exs_conv h ks b)
theorem ex_conv {d d' : D} (h : ∀ v, Rep G F v d → Rep G F v d') {v : V} (r : Rep G F v (.lst (exL d))) : Rep G F v (.lst (exL d')) := by
  cases r with
  | lst h1 r1 => exact .lst h1 (exs_conv h [0, 1, 2, 3, 4, 5, 6, 7] r1)
theorem run47 {s p n : Sl} {g : D} (hc : c.G = G) (I : Ok c F H σ [s, p, n, .val g, .no, .no, .no]) (k : ∀ σ1 H1 F1, Ext F F1 → Ok c F1 H1 σ1 [s, p, n, .val g, .val (.lst (exL g)), .val (.lst (exL g)), .val (.lst (exL .non))] → R E σ1 H1) :
    tSeq (vsQ G hb_4) (tSeq (vsQ G hb_5) (tSeq (vsQ G hb_6) (tSeq (vsQ G hb_7) (tSeq (vsQ G hb_8) (tSeq (vsQ G hb_9) (tSeq (vsQ G hb_10) R)))))) E σ H := by
  refine seq_go hc I (st4 s p n g) fun σ1 H1 F1 x1 I1 => ?_
  refine seq_go hc I1 (st5 s p n g) fun σ2 H2 F2 x2 I2 => ?_
  refine seq_go hc I2 (st6 s p n g) fun σ3 H3 F3 x3 I3 => ?_
  refine seq_go hc I3 (st7 s p n g) fun σ4 H4 F4 x4 I4 => ?_
  refine seq_go hc I4 (st8 s p n g) fun σ5 H5 F5 x5 I5 => ?_
  refine seq_go hc I5 (st9 s p n g) fun σ6 H6 F6 x6 I6 => ?_
  refine seq_go hc I6 (st10 s p n g) fun σ7 H7 F7 x7 I7 => ?_
  obtain ⟨p5, v5, _, _, n5, _, J5⟩ := I7.freeze (i := 5) (xs := exL g) rfl
  obtain ⟨p6, v6, _, _, n6, _, J6⟩ := J5.freeze (i := 6) (xs := exL .non) rfl
  exact k _ _ _ ((((((((x1.trans x2).trans x3).trans x4).trans x5).trans x6).trans x7).trans (Ext.upd n5)).trans (Ext.upd n6)) J6
end
theorem noL_ex (p : Addr) {k : Nat} (h : k ≤ 2) : noL k (.lst (exL (.adr p))) = true := match k, h with
  | 0, _ => rfl
  | 1, _ => rfl
  | 2, _ => rfl
  | k + 3, h => absurd h (by omega)
theorem law_all {G : Gx} : LawOk G := by
  intro us H Q E ⟨a, ns, e, hs, hl, tb, q⟩
  subst e
  have I0 : Ok ⟨G, noTab H, H, []⟩ (noTab H) H (L2.start N_law [.ref a]) [.val (.scr (ns.map .int)), .no, .no, .no, .no, .no, .no] := ok_start noTab_ext (noTab_tb tb) (.vals (ds := [.scr (ns.map .int)]) (.one (.scr (sqL_noTab hs) (reps_ints ns)))) 6
  obtain ⟨xs, e1, p1⟩ := st1 ns .no .no .no .no .no
  refine seq_go rfl I0 e1 fun σ1 H1 F1 x1 I1 => ?_
  obtain ⟨ys, n, e2, p2, hn⟩ := st2 p1 (.val (.scr (ns.map .int))) .no .no .no .no
  refine seq_go rfl I1 e2 fun σ2 H2 F2 x2 I2 => ?_
  obtain ⟨zs, g, e3, O1, O2⟩ := st3 p2 hn (.val (.scr (ns.map .int))) .no .no .no
  refine seq_go rfl I2 e3 fun σ3 H3 F3 x3 I3 => ?_
  have ret : ∀ {c : VS.Ctx} {F H : Hp} {σ : L2.St} {ρ ρ' : Rho} {m : SS} {E : Ends}, E.rt = Q → c.G = G → Ok c F H σ ρ → m ρ = some (.rt (.bl true), ρ') → vsQ G m E σ H := fun {c F H σ ρ ρ' m E} hE hc I e => ⟨c, hc, F, ρ, I, .rt (.bl true), ρ', e, fun v σ' H' F' x I' r => by cases r; rw [hE]; exact q H'⟩
  rcases O2 with nl | ⟨xs', rfl, isl, l2, nol, O3⟩
  · refine run47 rfl I3 fun σ4 H4 F4 x4 I4 => ?_
    refine if_no rfl I4 (test_eq O1 _ _ _) fun H5 F5 x5 I5 => ?_
    have e13 : hb_13 [.val (.scr (ns.map .int)), .own zs, .val (.int n), .val g, .val (.lst (exL g)), .val (.lst (exL g)), .val (.lst (exL .non))] = some (false, [.val (.scr (ns.map .int)), .own zs, .val (.int n), .val g, .val (.lst (exL g)), .val (.lst (exL g)), .val (.lst (exL .non))]) := by
      unfold hb_13
      refine sB_of ?_
      unfold s1
      simp only [sV, List.getElem?_cons_zero, List.getElem?_cons_succ, nl]
    refine if_no rfl I5 e13 fun H6 F6 x6 I6 => ?_
    exact ret rfl rfl I6 rfl
  · -- a list: it is told by its address while the others hold it
    obtain ⟨ov, hσ, hv⟩ := I3.sl 3 _ rfl
    cases ov with
    | none => exact hv.elim
    | some v =>
      have hv : Rep G F3 v (.lst xs') := hv
      cases hv with
      | @lst p us _ hF r =>
        have I3' : Ok ⟨G, noTab H, H, []⟩ F3 H3 σ3 [.val (.scr (ns.map .int)), .own zs, .val (.int n), .val (.adr p), .no, .no, .no] := I3.conv rfl fun i s' e => match i, e with
          | 0, e => .inr ⟨s', e, id, fun _ _ z => z⟩
          | 1, e => .inr ⟨s', e, id, fun _ _ z => z⟩
          | 2, e => .inr ⟨s', e, id, fun _ _ z => z⟩
          | 3, e => by
            cases e
            exact .inr ⟨_, rfl, id, fun ov h1 _ => by
              rw [hσ] at h1
              cases h1
              exact Rep.adr p⟩
          | 4, e => .inr ⟨s', e, id, fun _ _ z => z⟩
          | 5, e => .inr ⟨s', e, id, fun _ _ z => z⟩
          | 6, e => .inr ⟨s', e, id, fun _ _ z => z⟩
          | i + 7, e => by simp at e
        refine run47 rfl I3' fun σ4 H4 F4 x4 I4 => ?_
        have hp : F4 p = some (.lst us) := x4 _ _ hF
        have ru : Reps G F4 us xs' := r.ext x4
        have cv : ∀ v, Rep G F4 v (.adr p) → Rep G F4 v (.lst xs') := fun v z => by cases z; exact .lst hp ru
        have I5 : Ok ⟨G, noTab H, H, []⟩ F4 H4 σ4 [.no, .no, .no, .val (.lst xs'), .val (.lst (exL (.lst xs'))), .val (.lst (exL (.lst xs'))), .val (.lst (exL .non))] := I4.conv rfl fun i s' e => match i, e with
          | 0, e => by cases e; exact .inl rfl
          | 1, e => by cases e; exact .inl rfl
          | 2, e => by cases e; exact .inl rfl
          | 3, e => by
            cases e
            exact .inr ⟨_, rfl, id, fun ov _ z => by
              cases ov with
              | none => exact z
              | some v => exact cv v z⟩
          | 4, e => by
            cases e
            exact .inr ⟨_, rfl, id, fun ov _ z => by
              cases ov with
              | none => exact z
              | some v => exact ex_conv cv z⟩
          | 5, e => by
            cases e
            exact .inr ⟨_, rfl, id, fun ov _ z => by
              cases ov with
              | none => exact z
              | some v => exact ex_conv cv z⟩
          | 6, e => .inr ⟨s', e, id, fun _ _ z => z⟩
          | i + 7, e => by simp at e
        have I4v : Ok ⟨G, noTab H, H, []⟩ F4 H4 σ4 [.no, .no, .no, .val (.adr p), .val (.lst (exL (.adr p))), .val (.lst (exL (.adr p))), .no] := I4.conv rfl fun i s' e => match i, e with
          | 0, e => by cases e; exact .inl rfl
          | 1, e => by cases e; exact .inl rfl
          | 2, e => by cases e; exact .inl rfl
          | 3, e => .inr ⟨s', e, id, fun _ _ z => z⟩
          | 4, e => .inr ⟨s', e, id, fun _ _ z => z⟩
          | 5, e => .inr ⟨s', e, id, fun _ _ z => z⟩
          | 6, e => by cases e; exact .inl rfl
          | i + 7, e => by simp at e
        have allv : ∀ (i : Nat) s, ([.no, .no, .no, .val (.adr p), .val (.lst (exL (.adr p))), .val (.lst (exL (.adr p))), .no] : Rho)[i]? = some s → s = .no ∨ ∃ d, s = .val d := fun i s e => match i, e with
          | 0, e => by cases e; exact .inl rfl
          | 1, e => by cases e; exact .inl rfl
          | 2, e => by cases e; exact .inl rfl
          | 3, e => by cases e; exact .inr ⟨_, rfl⟩
          | 4, e => by cases e; exact .inr ⟨_, rfl⟩
          | 5, e => by cases e; exact .inr ⟨_, rfl⟩
          | 6, e => by cases e; exact .inl rfl
          | i + 7, e => by simp at e
        refine if_no rfl I5 (test_eq O1 _ _ _) fun H6 F6 x6 I6 => ?_
        have I6v := I4v.back I6 x6 allv
        have e13 : hb_13 [.no, .no, .no, .val (.lst xs'), .val (.lst (exL (.lst xs'))), .val (.lst (exL (.lst xs'))), .val (.lst (exL .non))] = some (true, [.no, .no, .no, .val (.lst xs'), .val (.lst (exL (.lst xs'))), .val (.lst (exL (.lst xs'))), .val (.lst (exL .non))]) := by
          unfold hb_13
          refine sB_of ?_
          unfold s1
          simp only [sV, List.getElem?_cons_zero, List.getElem?_cons_succ, isl]
        refine if_yes rfl I6 e13 fun H7 F7 x7 I7 => ?_
        have I7v := I6v.back I7 x7 allv
        have hp7 : F7 p = some (.lst us) := x7 _ _ (x6 _ _ hp)
        have ru7 : Reps G F7 us xs' := (ru.ext x6).ext x7
        have at_ : ∀ (i : Nat) d, ([.no, .no, .no, .val (.adr p), .val (.lst (exL (.adr p))), .val (.lst (exL (.adr p))), .no] : Rho)[i]? = some (.val d) → ∃ v, σ4[i]? = some (some v) ∧ Rep G F7 v d := fun i d e => by
          obtain ⟨ov, h1, h2⟩ := I7v.sl i _ e
          cases ov with
          | none => exact h2.elim
          | some v => exact ⟨v, h1, h2⟩
        have s3 : σ4[3]? = some (some (V.ref p)) := by
          obtain ⟨v, h1, h2⟩ := at_ 3 _ rfl
          cases h2
          exact h1
        have lu : us.length ≤ 2 := by rw [ru.length]; exact l2
        have nu : noLs us.length xs' = true := by rw [ru.length]; exact nol
        refine ⟨p, us, s3, I7.fh _ _ hp7, Nat.lt_of_le_of_lt lu (by rw [sizeLine_eq]; decide), ?_⟩
        have r8 : Rep G (upd F7 p (.lst (us ++ [.str "more"]))) (.ref p) (.lst (xs' ++ [.str "more"])) := .lst upd_same ((Reps.rm_upd hp7 ru7 nu).append (.one (.str _)))
        have cv8 : ∀ v, Rep G (upd F7 p (.lst (us ++ [.str "more"]))) v (.adr p) → Rep G (upd F7 p (.lst (us ++ [.str "more"]))) v (.lst (xs' ++ [.str "more"])) := fun v z => by cases z; exact r8
        have J := I7v.chgd (ws := us ++ [.str "more"]) (ρ' := [.no, .no, .no, .val (.lst (xs' ++ [.str "more"])), .val (.lst (exL (.lst (xs' ++ [.str "more"])))), .val (.lst (exL (.lst (xs' ++ [.str "more"])))), .no]) hp7 rfl fun j s' e => match j, e with
          | 0, e => by cases e; exact .inl rfl
          | 1, e => by cases e; exact .inl rfl
          | 2, e => by cases e; exact .inl rfl
          | 3, e => by cases e; exact .inr ⟨_, _, rfl, s3, r8⟩
          | 4, e => by
            cases e
            obtain ⟨v, h1, h2⟩ := at_ 4 _ rfl
            exact .inr ⟨_, v, rfl, h1, ex_conv cv8 (h2.rm_upd hp7 (noL_ex p lu))⟩
          | 5, e => by
            cases e
            obtain ⟨v, h1, h2⟩ := at_ 5 _ rfl
            exact .inr ⟨_, v, rfl, h1, ex_conv cv8 (h2.rm_upd hp7 (noL_ex p lu))⟩
          | 6, e => by cases e; exact .inl rfl
          | i + 7, e => by simp at e
        exact ret rfl rfl J (again_eq O3 _ _ _ _)
end Toy

set_option Elab.async false
set_option linter.all false
set_option maxRecDepth 100000
set_option maxHeartbeats 8000000
namespace Toy
open PySem PySem.Spec PyProof.Rows L2 VS
def clsA (ea0 : Addr) (ea1 : Addr) (ea2 : Addr) (ea3 : Addr) (ea4 : Addr) (ea5 : Addr) (ea6 : Addr) (ea7 : Addr) : Nat → Addr
  | 0 => ea0
  | 1 => ea1
  | 2 => ea2
  | 3 => ea3
  | 4 => ea4
  | 5 => ea5
  | 6 => ea6
  | _ => ea7
def fldA : Nat → List Str
  | _ => []
theorem all_mk {l : PySem.W.OpenLaw} {w : World} {K : PySem.W.Frag} {h : Heap} {mg : Str → Option Value} {fa  f0 f1 f2 f3 f4 f5  : Addr} (X : K.In h) (G : h.Ns mainGlobals mg) (hfa : mg "law" = some (.ref fa))
    {od0 an0 od1 an1 od2 an2 od3 an3 od4 an4 od5 an5 : Option Addr} {sl0 sl1 sl2 sl3 sl4 sl5 : Array (Option Value)} {oc0 kV0 dc0 pm0 cd0 ct0 oc1 kV1 dc1 pm1 cd1 ct1 oc2 kV2 dc2 pm2 cd2 ct2 oc3 kV3 dc3 pm3 cd3 ct3 oc4 kV4 dc4 pm4 cd4 ct4 oc5 kV5 dc5 pm5 cd5 ct5 : Value} 
    {ea0 ef0 eq0 ec0 et0 eN0 : Addr} {eoc0 ekV0 edc0 epm0 ect0 eqc0 ecl0 etc0 : Value} {eod0 ean0 eqd0 ecd0 etd0 edd0 : Option Addr} {esl0 eqm0 ecs0 ets0 : Array (Option Value)} {eqv0 : Array Value} {efl0 enm0 eqn0 : Str} {eft0 : Tok} {etn0 : Nat} {ebs0 ebm0 esb0 : List Value} {esn0 : List Str} {eab0 : Bool} {ecol0 : Option Bool} {ek00 ek10 ek20 ek30 ek50 : Option Value}
    {ea1 ef1 eq1 ec1 et1 eN1 : Addr} {eoc1 ekV1 edc1 epm1 ect1 eqc1 ecl1 etc1 : Value} {eod1 ean1 eqd1 ecd1 etd1 edd1 : Option Addr} {esl1 eqm1 ecs1 ets1 : Array (Option Value)} {eqv1 : Array Value} {efl1 enm1 eqn1 : Str} {eft1 : Tok} {etn1 : Nat} {ebs1 ebm1 esb1 : List Value} {esn1 : List Str} {eab1 : Bool} {ecol1 : Option Bool} {ek01 ek11 ek21 ek31 ek51 : Option Value}
    {ea2 ef2 eq2 ec2 et2 eN2 : Addr} {eoc2 ekV2 edc2 epm2 ect2 eqc2 ecl2 etc2 : Value} {eod2 ean2 eqd2 ecd2 etd2 edd2 : Option Addr} {esl2 eqm2 ecs2 ets2 : Array (Option Value)} {eqv2 : Array Value} {efl2 enm2 eqn2 : Str} {eft2 : Tok} {etn2 : Nat} {ebs2 ebm2 esb2 : List Value} {esn2 : List Str} {eab2 : Bool} {ecol2 : Option Bool} {ek02 ek12 ek22 ek32 ek52 : Option Value}
    {ea3 ef3 eq3 ec3 et3 eN3 : Addr} {eoc3 ekV3 edc3 epm3 ect3 eqc3 ecl3 etc3 : Value} {eod3 ean3 eqd3 ecd3 etd3 edd3 : Option Addr} {esl3 eqm3 ecs3 ets3 : Array (Option Value)} {eqv3 : Array Value} {efl3 enm3 eqn3 : Str} {eft3 : Tok} {etn3 : Nat} {ebs3 ebm3 esb3 : List Value} {esn3 : List Str} {eab3 : Bool} {ecol3 : Option Bool} {ek03 ek13 ek23 ek33 ek53 : Option Value}
    {ea4 ef4 eq4 ec4 et4 eN4 : Addr} {eoc4 ekV4 edc4 epm4 ect4 eqc4 ecl4 etc4 : Value} {eod4 ean4 eqd4 ecd4 etd4 edd4 : Option Addr} {esl4 eqm4 ecs4 ets4 : Array (Option Value)} {eqv4 : Array Value} {efl4 enm4 eqn4 : Str} {eft4 : Tok} {etn4 : Nat} {ebs4 ebm4 esb4 : List Value} {esn4 : List Str} {eab4 : Bool} {ecol4 : Option Bool} {ek04 ek14 ek24 ek34 ek54 : Option Value}
    {ea5 ef5 eq5 ec5 et5 eN5 : Addr} {eoc5 ekV5 edc5 epm5 ect5 eqc5 ecl5 etc5 : Value} {eod5 ean5 eqd5 ecd5 etd5 edd5 : Option Addr} {esl5 eqm5 ecs5 ets5 : Array (Option Value)} {eqv5 : Array Value} {efl5 enm5 eqn5 : Str} {eft5 : Tok} {etn5 : Nat} {ebs5 ebm5 esb5 : List Value} {esn5 : List Str} {eab5 : Bool} {ecol5 : Option Bool} {ek05 ek15 ek25 ek35 ek55 : Option Value}
    {ea6 ef6 eq6 ec6 et6 eN6 : Addr} {eoc6 ekV6 edc6 epm6 ect6 eqc6 ecl6 etc6 : Value} {eod6 ean6 eqd6 ecd6 etd6 edd6 : Option Addr} {esl6 eqm6 ecs6 ets6 : Array (Option Value)} {eqv6 : Array Value} {efl6 enm6 eqn6 : Str} {eft6 : Tok} {etn6 : Nat} {ebs6 ebm6 esb6 : List Value} {esn6 : List Str} {eab6 : Bool} {ecol6 : Option Bool} {ek06 ek16 ek26 ek36 ek56 : Option Value}
    {ea7 ef7 eq7 ec7 et7 eN7 : Addr} {eoc7 ekV7 edc7 epm7 ect7 eqc7 ecl7 etc7 : Value} {eod7 ean7 eqd7 ecd7 etd7 edd7 : Option Addr} {esl7 eqm7 ecs7 ets7 : Array (Option Value)} {eqv7 : Array Value} {efl7 enm7 eqn7 : Str} {eft7 : Tok} {etn7 : Nat} {ebs7 ebm7 esb7 : List Value} {esn7 : List Str} {eab7 : Bool} {ecol7 : Option Bool} {ek07 ek17 ek27 ek37 ek57 : Option Value}
    {eB_AgedReadsError : Addr}
    (xa0 : PySem.W.nsIn K mainGlobals "InvalidStep" = some (some (.ref ea0)))
    (xi0 : PySem.W.findIn K (.ref ea0) "__init__" = some (some (.ref ef0)))
    (xl0 : K.lookup ef0 = some ⟨eoc0, eod0, .func (PySem.W.fnX "__init__" "InvalidStep.__init__" (defArgs s_InvalidStep_init) (defBody s_InvalidStep_init) (defScope s_InvalidStep_init) [("__class__", ec0)] (.ref et0) ekV0 edc0 epm0 ean0 (.ref eq0) ect0), esl0⟩)
    (xc0 : PySem.W.codeIn K (.ref eq0) "InvalidStep.__init__" = true)
    (xq0 : K.lookup eq0 = some ⟨eqc0, eqd0, .fields eqv0, eqm0⟩)
    (xv0 : eqv0[2]? = some (.str efl0 eft0))
    (xf0 : ((l.prog.main.file : Str) == efl0) = true)
    (xe0 : K.lookup ec0 = some ⟨ecl0, ecd0, .cell (some (.ref ea0)), ecs0⟩)
    (xt0 : K.lookup et0 = some ⟨etc0, etd0, .seq #[.none] etn0, ets0⟩)
    (xp0 : (l.prog.main.scope.names.lookup ("super" : Str)).isSome = false)
    (xC0 : K.lookup ea0 = some (excClassObj enm0 eqn0 ea0 eN0 ebs0 ebm0 true esn0 esb0 eab0 ecol0 edd0 ek00 ek10 ek20 ek30 ek50 "ValueError.__new__"))
    (xb0 : PySem.HandSPX.refsVE ebm0 = true)
    (xs0 : PySem.W.findIn K (.ref ea0) "__setattr__" = some (some (.builtin "object.__setattr__")))
    (xx0 : PySem.W.subIn K (.ref ea0) (.type "BaseException") = some true)
    (xy0 : PySem.W.typeIn K (.ref ea0) = some (.type "type"))
    (xk0 : PySem.W.keepIn K (.ref ea0) = true)
    (xu0 : PySem.W.ks_superIn K ea0 ea0 "__init__" = some (some (.builtin "ValueError.__init__")))
    (xo0 : PySem.W.nsIn K cStatics "thirdparty.any" = some none)
    (xw0 : PySem.W.findIn K (.ref ea0) "value" = some none)
    (xt_0 : PySem.W.typeIn K (.ref ef0) = some (.type "function"))
    (xm0 : PySem.W.mroIn K ea0 (.ref ea0) = some true)
    (xd0 : PySem.W.subIn K (.ref ea0) (.type "ValueError") = some true)
    (xg0 : PySem.W.findIn K (.ref ea0) "__getattribute__" = some (some (.builtin "BaseException.__getattribute__")))
    (xh0 : PySem.W.findIn K (.ref ea0) "__getattr__" = some none)
    (xn0 : PySem.W.hasDictIn K ea0 = true)
    (xa1 : PySem.W.nsIn K mainGlobals "InvalidNet" = some (some (.ref ea1)))
    (xi1 : PySem.W.findIn K (.ref ea1) "__init__" = some (some (.ref ef1)))
    (xl1 : K.lookup ef1 = some ⟨eoc1, eod1, .func (PySem.W.fnX "__init__" "InvalidNet.__init__" (defArgs s_InvalidNet_init) (defBody s_InvalidNet_init) (defScope s_InvalidNet_init) [("__class__", ec1)] (.ref et1) ekV1 edc1 epm1 ean1 (.ref eq1) ect1), esl1⟩)
    (xc1 : PySem.W.codeIn K (.ref eq1) "InvalidNet.__init__" = true)
    (xq1 : K.lookup eq1 = some ⟨eqc1, eqd1, .fields eqv1, eqm1⟩)
    (xv1 : eqv1[2]? = some (.str efl1 eft1))
    (xf1 : ((l.prog.main.file : Str) == efl1) = true)
    (xe1 : K.lookup ec1 = some ⟨ecl1, ecd1, .cell (some (.ref ea1)), ecs1⟩)
    (xt1 : K.lookup et1 = some ⟨etc1, etd1, .seq #[.none] etn1, ets1⟩)
    (xp1 : (l.prog.main.scope.names.lookup ("super" : Str)).isSome = false)
    (xC1 : K.lookup ea1 = some (excClassObj enm1 eqn1 ea1 eN1 ebs1 ebm1 true esn1 esb1 eab1 ecol1 edd1 ek01 ek11 ek21 ek31 ek51 "ValueError.__new__"))
    (xb1 : PySem.HandSPX.refsVE ebm1 = true)
    (xs1 : PySem.W.findIn K (.ref ea1) "__setattr__" = some (some (.builtin "object.__setattr__")))
    (xx1 : PySem.W.subIn K (.ref ea1) (.type "BaseException") = some true)
    (xy1 : PySem.W.typeIn K (.ref ea1) = some (.type "type"))
    (xk1 : PySem.W.keepIn K (.ref ea1) = true)
    (xu1 : PySem.W.ks_superIn K ea1 ea1 "__init__" = some (some (.builtin "ValueError.__init__")))
    (xo1 : PySem.W.nsIn K cStatics "thirdparty.any" = some none)
    (xw1 : PySem.W.findIn K (.ref ea1) "value" = some none)
    (xt_1 : PySem.W.typeIn K (.ref ef1) = some (.type "function"))
    (xm1 : PySem.W.mroIn K ea1 (.ref ea1) = some true)
    (xd1 : PySem.W.subIn K (.ref ea1) (.type "ValueError") = some true)
    (xg1 : PySem.W.findIn K (.ref ea1) "__getattribute__" = some (some (.builtin "BaseException.__getattribute__")))
    (xh1 : PySem.W.findIn K (.ref ea1) "__getattr__" = some none)
    (xn1 : PySem.W.hasDictIn K ea1 = true)
    (xa2 : PySem.W.nsIn K mainGlobals "InvalidPhases" = some (some (.ref ea2)))
    (xi2 : PySem.W.findIn K (.ref ea2) "__init__" = some (some (.ref ef2)))
    (xl2 : K.lookup ef2 = some ⟨eoc2, eod2, .func (PySem.W.fnX "__init__" "InvalidPhases.__init__" (defArgs s_InvalidPhases_init) (defBody s_InvalidPhases_init) (defScope s_InvalidPhases_init) [("__class__", ec2)] (.ref et2) ekV2 edc2 epm2 ean2 (.ref eq2) ect2), esl2⟩)
    (xc2 : PySem.W.codeIn K (.ref eq2) "InvalidPhases.__init__" = true)
    (xq2 : K.lookup eq2 = some ⟨eqc2, eqd2, .fields eqv2, eqm2⟩)
    (xv2 : eqv2[2]? = some (.str efl2 eft2))
    (xf2 : ((l.prog.main.file : Str) == efl2) = true)
    (xe2 : K.lookup ec2 = some ⟨ecl2, ecd2, .cell (some (.ref ea2)), ecs2⟩)
    (xt2 : K.lookup et2 = some ⟨etc2, etd2, .seq #[.none] etn2, ets2⟩)
    (xp2 : (l.prog.main.scope.names.lookup ("super" : Str)).isSome = false)
    (xC2 : K.lookup ea2 = some (excClassObj enm2 eqn2 ea2 eN2 ebs2 ebm2 true esn2 esb2 eab2 ecol2 edd2 ek02 ek12 ek22 ek32 ek52 "ValueError.__new__"))
    (xb2 : PySem.HandSPX.refsVE ebm2 = true)
    (xs2 : PySem.W.findIn K (.ref ea2) "__setattr__" = some (some (.builtin "object.__setattr__")))
    (xx2 : PySem.W.subIn K (.ref ea2) (.type "BaseException") = some true)
    (xy2 : PySem.W.typeIn K (.ref ea2) = some (.type "type"))
    (xk2 : PySem.W.keepIn K (.ref ea2) = true)
    (xu2 : PySem.W.ks_superIn K ea2 ea2 "__init__" = some (some (.builtin "ValueError.__init__")))
    (xo2 : PySem.W.nsIn K cStatics "thirdparty.any" = some none)
    (xw2 : PySem.W.findIn K (.ref ea2) "value" = some none)
    (xt_2 : PySem.W.typeIn K (.ref ef2) = some (.type "function"))
    (xm2 : PySem.W.mroIn K ea2 (.ref ea2) = some true)
    (xd2 : PySem.W.subIn K (.ref ea2) (.type "ValueError") = some true)
    (xg2 : PySem.W.findIn K (.ref ea2) "__getattribute__" = some (some (.builtin "BaseException.__getattribute__")))
    (xh2 : PySem.W.findIn K (.ref ea2) "__getattr__" = some none)
    (xn2 : PySem.W.hasDictIn K ea2 = true)
    (xa3 : PySem.W.nsIn K mainGlobals "InvalidPath" = some (some (.ref ea3)))
    (xi3 : PySem.W.findIn K (.ref ea3) "__init__" = some (some (.ref ef3)))
    (xl3 : K.lookup ef3 = some ⟨eoc3, eod3, .func (PySem.W.fnX "__init__" "InvalidPath.__init__" (defArgs s_InvalidPath_init) (defBody s_InvalidPath_init) (defScope s_InvalidPath_init) [("__class__", ec3)] (.ref et3) ekV3 edc3 epm3 ean3 (.ref eq3) ect3), esl3⟩)
    (xc3 : PySem.W.codeIn K (.ref eq3) "InvalidPath.__init__" = true)
    (xq3 : K.lookup eq3 = some ⟨eqc3, eqd3, .fields eqv3, eqm3⟩)
    (xv3 : eqv3[2]? = some (.str efl3 eft3))
    (xf3 : ((l.prog.main.file : Str) == efl3) = true)
    (xe3 : K.lookup ec3 = some ⟨ecl3, ecd3, .cell (some (.ref ea3)), ecs3⟩)
    (xt3 : K.lookup et3 = some ⟨etc3, etd3, .seq #[.none] etn3, ets3⟩)
    (xp3 : (l.prog.main.scope.names.lookup ("super" : Str)).isSome = false)
    (xC3 : K.lookup ea3 = some (excClassObj enm3 eqn3 ea3 eN3 ebs3 ebm3 true esn3 esb3 eab3 ecol3 edd3 ek03 ek13 ek23 ek33 ek53 "ValueError.__new__"))
    (xb3 : PySem.HandSPX.refsVE ebm3 = true)
    (xs3 : PySem.W.findIn K (.ref ea3) "__setattr__" = some (some (.builtin "object.__setattr__")))
    (xx3 : PySem.W.subIn K (.ref ea3) (.type "BaseException") = some true)
    (xy3 : PySem.W.typeIn K (.ref ea3) = some (.type "type"))
    (xk3 : PySem.W.keepIn K (.ref ea3) = true)
    (xu3 : PySem.W.ks_superIn K ea3 ea3 "__init__" = some (some (.builtin "ValueError.__init__")))
    (xo3 : PySem.W.nsIn K cStatics "thirdparty.any" = some none)
    (xw3 : PySem.W.findIn K (.ref ea3) "value" = some none)
    (xt_3 : PySem.W.typeIn K (.ref ef3) = some (.type "function"))
    (xm3 : PySem.W.mroIn K ea3 (.ref ea3) = some true)
    (xd3 : PySem.W.subIn K (.ref ea3) (.type "ValueError") = some true)
    (xg3 : PySem.W.findIn K (.ref ea3) "__getattribute__" = some (some (.builtin "BaseException.__getattribute__")))
    (xh3 : PySem.W.findIn K (.ref ea3) "__getattr__" = some none)
    (xn3 : PySem.W.hasDictIn K ea3 = true)
    (xa4 : PySem.W.nsIn K mainGlobals "InvalidName" = some (some (.ref ea4)))
    (xi4 : PySem.W.findIn K (.ref ea4) "__init__" = some (some (.ref ef4)))
    (xl4 : K.lookup ef4 = some ⟨eoc4, eod4, .func (PySem.W.fnX "__init__" "InvalidName.__init__" (defArgs s_InvalidName_init) (defBody s_InvalidName_init) (defScope s_InvalidName_init) [("__class__", ec4)] (.ref et4) ekV4 edc4 epm4 ean4 (.ref eq4) ect4), esl4⟩)
    (xc4 : PySem.W.codeIn K (.ref eq4) "InvalidName.__init__" = true)
    (xq4 : K.lookup eq4 = some ⟨eqc4, eqd4, .fields eqv4, eqm4⟩)
    (xv4 : eqv4[2]? = some (.str efl4 eft4))
    (xf4 : ((l.prog.main.file : Str) == efl4) = true)
    (xe4 : K.lookup ec4 = some ⟨ecl4, ecd4, .cell (some (.ref ea4)), ecs4⟩)
    (xt4 : K.lookup et4 = some ⟨etc4, etd4, .seq #[.none] etn4, ets4⟩)
    (xp4 : (l.prog.main.scope.names.lookup ("super" : Str)).isSome = false)
    (xC4 : K.lookup ea4 = some (excClassObj enm4 eqn4 ea4 eN4 ebs4 ebm4 true esn4 esb4 eab4 ecol4 edd4 ek04 ek14 ek24 ek34 ek54 "ValueError.__new__"))
    (xb4 : PySem.HandSPX.refsVE ebm4 = true)
    (xs4 : PySem.W.findIn K (.ref ea4) "__setattr__" = some (some (.builtin "object.__setattr__")))
    (xx4 : PySem.W.subIn K (.ref ea4) (.type "BaseException") = some true)
    (xy4 : PySem.W.typeIn K (.ref ea4) = some (.type "type"))
    (xk4 : PySem.W.keepIn K (.ref ea4) = true)
    (xu4 : PySem.W.ks_superIn K ea4 ea4 "__init__" = some (some (.builtin "ValueError.__init__")))
    (xo4 : PySem.W.nsIn K cStatics "thirdparty.any" = some none)
    (xw4 : PySem.W.findIn K (.ref ea4) "value" = some none)
    (xt_4 : PySem.W.typeIn K (.ref ef4) = some (.type "function"))
    (xm4 : PySem.W.mroIn K ea4 (.ref ea4) = some true)
    (xd4 : PySem.W.subIn K (.ref ea4) (.type "ValueError") = some true)
    (xg4 : PySem.W.findIn K (.ref ea4) "__getattribute__" = some (some (.builtin "BaseException.__getattribute__")))
    (xh4 : PySem.W.findIn K (.ref ea4) "__getattr__" = some none)
    (xn4 : PySem.W.hasDictIn K ea4 = true)
    (xa5 : PySem.W.nsIn K mainGlobals "InvalidNames" = some (some (.ref ea5)))
    (xi5 : PySem.W.findIn K (.ref ea5) "__init__" = some (some (.ref ef5)))
    (xl5 : K.lookup ef5 = some ⟨eoc5, eod5, .func (PySem.W.fnX "__init__" "InvalidNames.__init__" (defArgs s_InvalidNames_init) (defBody s_InvalidNames_init) (defScope s_InvalidNames_init) [("__class__", ec5)] (.ref et5) ekV5 edc5 epm5 ean5 (.ref eq5) ect5), esl5⟩)
    (xc5 : PySem.W.codeIn K (.ref eq5) "InvalidNames.__init__" = true)
    (xq5 : K.lookup eq5 = some ⟨eqc5, eqd5, .fields eqv5, eqm5⟩)
    (xv5 : eqv5[2]? = some (.str efl5 eft5))
    (xf5 : ((l.prog.main.file : Str) == efl5) = true)
    (xe5 : K.lookup ec5 = some ⟨ecl5, ecd5, .cell (some (.ref ea5)), ecs5⟩)
    (xt5 : K.lookup et5 = some ⟨etc5, etd5, .seq #[.none] etn5, ets5⟩)
    (xp5 : (l.prog.main.scope.names.lookup ("super" : Str)).isSome = false)
    (xC5 : K.lookup ea5 = some (excClassObj enm5 eqn5 ea5 eN5 ebs5 ebm5 true esn5 esb5 eab5 ecol5 edd5 ek05 ek15 ek25 ek35 ek55 "ValueError.__new__"))
    (xb5 : PySem.HandSPX.refsVE ebm5 = true)
    (xs5 : PySem.W.findIn K (.ref ea5) "__setattr__" = some (some (.builtin "object.__setattr__")))
    (xx5 : PySem.W.subIn K (.ref ea5) (.type "BaseException") = some true)
    (xy5 : PySem.W.typeIn K (.ref ea5) = some (.type "type"))
    (xk5 : PySem.W.keepIn K (.ref ea5) = true)
    (xu5 : PySem.W.ks_superIn K ea5 ea5 "__init__" = some (some (.builtin "ValueError.__init__")))
    (xo5 : PySem.W.nsIn K cStatics "thirdparty.any" = some none)
    (xw5 : PySem.W.findIn K (.ref ea5) "value" = some none)
    (xt_5 : PySem.W.typeIn K (.ref ef5) = some (.type "function"))
    (xm5 : PySem.W.mroIn K ea5 (.ref ea5) = some true)
    (xd5 : PySem.W.subIn K (.ref ea5) (.type "ValueError") = some true)
    (xg5 : PySem.W.findIn K (.ref ea5) "__getattribute__" = some (some (.builtin "BaseException.__getattribute__")))
    (xh5 : PySem.W.findIn K (.ref ea5) "__getattr__" = some none)
    (xn5 : PySem.W.hasDictIn K ea5 = true)
    (xa6 : PySem.W.nsIn K mainGlobals "InvalidNumber" = some (some (.ref ea6)))
    (xi6 : PySem.W.findIn K (.ref ea6) "__init__" = some (some (.ref ef6)))
    (xl6 : K.lookup ef6 = some ⟨eoc6, eod6, .func (PySem.W.fnX "__init__" "InvalidNumber.__init__" (defArgs s_InvalidNumber_init) (defBody s_InvalidNumber_init) (defScope s_InvalidNumber_init) [("__class__", ec6)] (.ref et6) ekV6 edc6 epm6 ean6 (.ref eq6) ect6), esl6⟩)
    (xc6 : PySem.W.codeIn K (.ref eq6) "InvalidNumber.__init__" = true)
    (xq6 : K.lookup eq6 = some ⟨eqc6, eqd6, .fields eqv6, eqm6⟩)
    (xv6 : eqv6[2]? = some (.str efl6 eft6))
    (xf6 : ((l.prog.main.file : Str) == efl6) = true)
    (xe6 : K.lookup ec6 = some ⟨ecl6, ecd6, .cell (some (.ref ea6)), ecs6⟩)
    (xt6 : K.lookup et6 = some ⟨etc6, etd6, .seq #[.none] etn6, ets6⟩)
    (xp6 : (l.prog.main.scope.names.lookup ("super" : Str)).isSome = false)
    (xC6 : K.lookup ea6 = some (excClassObj enm6 eqn6 ea6 eN6 ebs6 ebm6 true esn6 esb6 eab6 ecol6 edd6 ek06 ek16 ek26 ek36 ek56 "ValueError.__new__"))
    (xb6 : PySem.HandSPX.refsVE ebm6 = true)
    (xs6 : PySem.W.findIn K (.ref ea6) "__setattr__" = some (some (.builtin "object.__setattr__")))
    (xx6 : PySem.W.subIn K (.ref ea6) (.type "BaseException") = some true)
    (xy6 : PySem.W.typeIn K (.ref ea6) = some (.type "type"))
    (xk6 : PySem.W.keepIn K (.ref ea6) = true)
    (xu6 : PySem.W.ks_superIn K ea6 ea6 "__init__" = some (some (.builtin "ValueError.__init__")))
    (xo6 : PySem.W.nsIn K cStatics "thirdparty.any" = some none)
    (xw6 : PySem.W.findIn K (.ref ea6) "value" = some none)
    (xt_6 : PySem.W.typeIn K (.ref ef6) = some (.type "function"))
    (xm6 : PySem.W.mroIn K ea6 (.ref ea6) = some true)
    (xd6 : PySem.W.subIn K (.ref ea6) (.type "ValueError") = some true)
    (xg6 : PySem.W.findIn K (.ref ea6) "__getattribute__" = some (some (.builtin "BaseException.__getattribute__")))
    (xh6 : PySem.W.findIn K (.ref ea6) "__getattr__" = some none)
    (xn6 : PySem.W.hasDictIn K ea6 = true)
    (xa7 : PySem.W.nsIn K mainGlobals "InvalidSet" = some (some (.ref ea7)))
    (xi7 : PySem.W.findIn K (.ref ea7) "__init__" = some (some (.ref ef7)))
    (xl7 : K.lookup ef7 = some ⟨eoc7, eod7, .func (PySem.W.fnX "__init__" "InvalidSet.__init__" (defArgs s_InvalidSet_init) (defBody s_InvalidSet_init) (defScope s_InvalidSet_init) [("__class__", ec7)] (.ref et7) ekV7 edc7 epm7 ean7 (.ref eq7) ect7), esl7⟩)
    (xc7 : PySem.W.codeIn K (.ref eq7) "InvalidSet.__init__" = true)
    (xq7 : K.lookup eq7 = some ⟨eqc7, eqd7, .fields eqv7, eqm7⟩)
    (xv7 : eqv7[2]? = some (.str efl7 eft7))
    (xf7 : ((l.prog.main.file : Str) == efl7) = true)
    (xe7 : K.lookup ec7 = some ⟨ecl7, ecd7, .cell (some (.ref ea7)), ecs7⟩)
    (xt7 : K.lookup et7 = some ⟨etc7, etd7, .seq #[.none] etn7, ets7⟩)
    (xp7 : (l.prog.main.scope.names.lookup ("super" : Str)).isSome = false)
    (xC7 : K.lookup ea7 = some (excClassObj enm7 eqn7 ea7 eN7 ebs7 ebm7 true esn7 esb7 eab7 ecol7 edd7 ek07 ek17 ek27 ek37 ek57 "ValueError.__new__"))
    (xb7 : PySem.HandSPX.refsVE ebm7 = true)
    (xs7 : PySem.W.findIn K (.ref ea7) "__setattr__" = some (some (.builtin "object.__setattr__")))
    (xx7 : PySem.W.subIn K (.ref ea7) (.type "BaseException") = some true)
    (xy7 : PySem.W.typeIn K (.ref ea7) = some (.type "type"))
    (xk7 : PySem.W.keepIn K (.ref ea7) = true)
    (xu7 : PySem.W.ks_superIn K ea7 ea7 "__init__" = some (some (.builtin "ValueError.__init__")))
    (xo7 : PySem.W.nsIn K cStatics "thirdparty.any" = some none)
    (xw7 : PySem.W.findIn K (.ref ea7) "value" = some none)
    (xt_7 : PySem.W.typeIn K (.ref ef7) = some (.type "function"))
    (xm7 : PySem.W.mroIn K ea7 (.ref ea7) = some true)
    (xd7 : PySem.W.subIn K (.ref ea7) (.type "ValueError") = some true)
    (xg7 : PySem.W.findIn K (.ref ea7) "__getattribute__" = some (some (.builtin "BaseException.__getattribute__")))
    (xh7 : PySem.W.findIn K (.ref ea7) "__getattr__" = some none)
    (xn7 : PySem.W.hasDictIn K ea7 = true)
    (hn : PySem.W.specialIn K (.builtin "object.__class__") "__get__" = some (some (.builtin "getset_descriptor.__get__")))
    (tk : PySem.W.takesIn K (.builtin "object.__class__") = some true)
    (a0 : PySem.W.nsIn K mainGlobals "_law_purse" = some (some (.ref f0)))
    (l0 : K.lookup f0 = some ⟨oc0, od0, .func (PySem.W.fnOf "_law_purse" "_law_purse" (defArgs s_law_purse) (defBody s_law_purse) (defScope s_law_purse) .none kV0 dc0 pm0 an0 cd0 ct0), sl0⟩)
    (c0 : PySem.W.codeIn K cd0 "_law_purse" = true)
    (k0 : PySem.W.keepIn K (.ref f0) = true)
    (a1 : PySem.W.nsIn K mainGlobals "_law_draw" = some (some (.ref f1)))
    (l1 : K.lookup f1 = some ⟨oc1, od1, .func (PySem.W.fnOf "_law_draw" "_law_draw" (defArgs s_law_draw) (defBody s_law_draw) (defScope s_law_draw) .none kV1 dc1 pm1 an1 cd1 ct1), sl1⟩)
    (c1 : PySem.W.codeIn K cd1 "_law_draw" = true)
    (k1 : PySem.W.keepIn K (.ref f1) = true)
    (a2 : PySem.W.nsIn K mainGlobals "_law_pick" = some (some (.ref f2)))
    (l2 : K.lookup f2 = some ⟨oc2, od2, .func (PySem.W.fnOf "_law_pick" "_law_pick" (defArgs s_law_pick) (defBody s_law_pick) (defScope s_law_pick) .none kV2 dc2 pm2 an2 cd2 ct2), sl2⟩)
    (c2 : PySem.W.codeIn K cd2 "_law_pick" = true)
    (k2 : PySem.W.keepIn K (.ref f2) = true)
    (a3 : PySem.W.nsIn K mainGlobals "_law_classes" = some (some (.ref f3)))
    (l3 : K.lookup f3 = some ⟨oc3, od3, .func (PySem.W.fnOf "_law_classes" "_law_classes" (defArgs s_law_classes) (defBody s_law_classes) (defScope s_law_classes) .none kV3 dc3 pm3 an3 cd3 ct3), sl3⟩)
    (c3 : PySem.W.codeIn K cd3 "_law_classes" = true)
    (k3 : PySem.W.keepIn K (.ref f3) = true)
    (a4 : PySem.W.nsIn K mainGlobals "_law_right" = some (some (.ref f4)))
    (l4 : K.lookup f4 = some ⟨oc4, od4, .func (PySem.W.fnOf "_law_right" "_law_right" (defArgs s_law_right) (defBody s_law_right) (defScope s_law_right) .none kV4 dc4 pm4 an4 cd4 ct4), sl4⟩)
    (c4 : PySem.W.codeIn K cd4 "_law_right" = true)
    (k4 : PySem.W.keepIn K (.ref f4) = true)
    (a5 : PySem.W.nsIn K mainGlobals "law" = some (some (.ref f5)))
    (l5 : K.lookup f5 = some ⟨oc5, od5, .func (PySem.W.fnOf "law" "law" (defArgs s_law) (defBody s_law) (defScope s_law) .none kV5 dc5 pm5 an5 cd5 ct5), sl5⟩)
    (c5 : PySem.W.codeIn K cd5 "law" = true)
    (k5 : PySem.W.keepIn K (.ref f5) = true)
    (z_ValueError : PySem.W.nsIn K mainGlobals "ValueError" = some none)
    (z_int : PySem.W.nsIn K mainGlobals "int" = some none)
    (z_isinstance : PySem.W.nsIn K mainGlobals "isinstance" = some none)
    (z_len : PySem.W.nsIn K mainGlobals "len" = some none)
    (z_list : PySem.W.nsIn K mainGlobals "list" = some none)
    (z_max : PySem.W.nsIn K mainGlobals "max" = some none)
    (z_range : PySem.W.nsIn K mainGlobals "range" = some none)
    (z_repr : PySem.W.nsIn K mainGlobals "repr" = some none)
    (z_super : PySem.W.nsIn K mainGlobals "super" = some none)
    (xha0 : PySem.W.findIn K (.ref ea0) "__class__" = some (some (.builtin "object.__class__")))
    (xhm0 : PySem.W.mroIn K ea0 (.type "object") = some true)
    (xha1 : PySem.W.findIn K (.ref ea1) "__class__" = some (some (.builtin "object.__class__")))
    (xhm1 : PySem.W.mroIn K ea1 (.type "object") = some true)
    (xha2 : PySem.W.findIn K (.ref ea2) "__class__" = some (some (.builtin "object.__class__")))
    (xhm2 : PySem.W.mroIn K ea2 (.type "object") = some true)
    (xha3 : PySem.W.findIn K (.ref ea3) "__class__" = some (some (.builtin "object.__class__")))
    (xhm3 : PySem.W.mroIn K ea3 (.type "object") = some true)
    (xha4 : PySem.W.findIn K (.ref ea4) "__class__" = some (some (.builtin "object.__class__")))
    (xhm4 : PySem.W.mroIn K ea4 (.type "object") = some true)
    (xha5 : PySem.W.findIn K (.ref ea5) "__class__" = some (some (.builtin "object.__class__")))
    (xhm5 : PySem.W.mroIn K ea5 (.type "object") = some true)
    (xha6 : PySem.W.findIn K (.ref ea6) "__class__" = some (some (.builtin "object.__class__")))
    (xhm6 : PySem.W.mroIn K ea6 (.type "object") = some true)
    (xha7 : PySem.W.findIn K (.ref ea7) "__class__" = some (some (.builtin "object.__class__")))
    (xhm7 : PySem.W.mroIn K ea7 (.type "object") = some true)
    (xB_AgedReadsError : PySem.W.nsIn K mainGlobals "AgedReadsError" = some (some (.ref eB_AgedReadsError)))
    (ki_InvalidStep_0 : PySem.W.kitOne K (.ref ea0) (.ref ea0) = some true)
    (ki_InvalidStep_1 : PySem.W.kitOne K (.ref ea1) (.ref ea0) = some false)
    (ki_InvalidStep_2 : PySem.W.kitOne K (.ref ea2) (.ref ea0) = some false)
    (ki_InvalidStep_3 : PySem.W.kitOne K (.ref ea3) (.ref ea0) = some false)
    (ki_InvalidStep_4 : PySem.W.kitOne K (.ref ea4) (.ref ea0) = some false)
    (ki_InvalidStep_5 : PySem.W.kitOne K (.ref ea5) (.ref ea0) = some false)
    (ki_InvalidStep_6 : PySem.W.kitOne K (.ref ea6) (.ref ea0) = some false)
    (ki_InvalidStep_7 : PySem.W.kitOne K (.ref ea7) (.ref ea0) = some false)
    (ki_InvalidNet_0 : PySem.W.kitOne K (.ref ea0) (.ref ea1) = some false)
    (ki_InvalidNet_1 : PySem.W.kitOne K (.ref ea1) (.ref ea1) = some true)
    (ki_InvalidNet_2 : PySem.W.kitOne K (.ref ea2) (.ref ea1) = some false)
    (ki_InvalidNet_3 : PySem.W.kitOne K (.ref ea3) (.ref ea1) = some false)
    (ki_InvalidNet_4 : PySem.W.kitOne K (.ref ea4) (.ref ea1) = some false)
    (ki_InvalidNet_5 : PySem.W.kitOne K (.ref ea5) (.ref ea1) = some false)
    (ki_InvalidNet_6 : PySem.W.kitOne K (.ref ea6) (.ref ea1) = some false)
    (ki_InvalidNet_7 : PySem.W.kitOne K (.ref ea7) (.ref ea1) = some false)
    (ki_InvalidPhases_0 : PySem.W.kitOne K (.ref ea0) (.ref ea2) = some false)
    (ki_InvalidPhases_1 : PySem.W.kitOne K (.ref ea1) (.ref ea2) = some false)
    (ki_InvalidPhases_2 : PySem.W.kitOne K (.ref ea2) (.ref ea2) = some true)
    (ki_InvalidPhases_3 : PySem.W.kitOne K (.ref ea3) (.ref ea2) = some false)
    (ki_InvalidPhases_4 : PySem.W.kitOne K (.ref ea4) (.ref ea2) = some false)
    (ki_InvalidPhases_5 : PySem.W.kitOne K (.ref ea5) (.ref ea2) = some false)
    (ki_InvalidPhases_6 : PySem.W.kitOne K (.ref ea6) (.ref ea2) = some false)
    (ki_InvalidPhases_7 : PySem.W.kitOne K (.ref ea7) (.ref ea2) = some false)
    (ki_InvalidPath_0 : PySem.W.kitOne K (.ref ea0) (.ref ea3) = some false)
    (ki_InvalidPath_1 : PySem.W.kitOne K (.ref ea1) (.ref ea3) = some false)
    (ki_InvalidPath_2 : PySem.W.kitOne K (.ref ea2) (.ref ea3) = some false)
    (ki_InvalidPath_3 : PySem.W.kitOne K (.ref ea3) (.ref ea3) = some true)
    (ki_InvalidPath_4 : PySem.W.kitOne K (.ref ea4) (.ref ea3) = some false)
    (ki_InvalidPath_5 : PySem.W.kitOne K (.ref ea5) (.ref ea3) = some false)
    (ki_InvalidPath_6 : PySem.W.kitOne K (.ref ea6) (.ref ea3) = some false)
    (ki_InvalidPath_7 : PySem.W.kitOne K (.ref ea7) (.ref ea3) = some false)
    (ki_InvalidName_0 : PySem.W.kitOne K (.ref ea0) (.ref ea4) = some false)
    (ki_InvalidName_1 : PySem.W.kitOne K (.ref ea1) (.ref ea4) = some false)
    (ki_InvalidName_2 : PySem.W.kitOne K (.ref ea2) (.ref ea4) = some false)
    (ki_InvalidName_3 : PySem.W.kitOne K (.ref ea3) (.ref ea4) = some false)
    (ki_InvalidName_4 : PySem.W.kitOne K (.ref ea4) (.ref ea4) = some true)
    (ki_InvalidName_5 : PySem.W.kitOne K (.ref ea5) (.ref ea4) = some false)
    (ki_InvalidName_6 : PySem.W.kitOne K (.ref ea6) (.ref ea4) = some false)
    (ki_InvalidName_7 : PySem.W.kitOne K (.ref ea7) (.ref ea4) = some false)
    (ki_InvalidNames_0 : PySem.W.kitOne K (.ref ea0) (.ref ea5) = some false)
    (ki_InvalidNames_1 : PySem.W.kitOne K (.ref ea1) (.ref ea5) = some false)
    (ki_InvalidNames_2 : PySem.W.kitOne K (.ref ea2) (.ref ea5) = some false)
    (ki_InvalidNames_3 : PySem.W.kitOne K (.ref ea3) (.ref ea5) = some false)
    (ki_InvalidNames_4 : PySem.W.kitOne K (.ref ea4) (.ref ea5) = some false)
    (ki_InvalidNames_5 : PySem.W.kitOne K (.ref ea5) (.ref ea5) = some true)
    (ki_InvalidNames_6 : PySem.W.kitOne K (.ref ea6) (.ref ea5) = some false)
    (ki_InvalidNames_7 : PySem.W.kitOne K (.ref ea7) (.ref ea5) = some false)
    (ki_InvalidNumber_0 : PySem.W.kitOne K (.ref ea0) (.ref ea6) = some false)
    (ki_InvalidNumber_1 : PySem.W.kitOne K (.ref ea1) (.ref ea6) = some false)
    (ki_InvalidNumber_2 : PySem.W.kitOne K (.ref ea2) (.ref ea6) = some false)
    (ki_InvalidNumber_3 : PySem.W.kitOne K (.ref ea3) (.ref ea6) = some false)
    (ki_InvalidNumber_4 : PySem.W.kitOne K (.ref ea4) (.ref ea6) = some false)
    (ki_InvalidNumber_5 : PySem.W.kitOne K (.ref ea5) (.ref ea6) = some false)
    (ki_InvalidNumber_6 : PySem.W.kitOne K (.ref ea6) (.ref ea6) = some true)
    (ki_InvalidNumber_7 : PySem.W.kitOne K (.ref ea7) (.ref ea6) = some false)
    (ki_InvalidSet_0 : PySem.W.kitOne K (.ref ea0) (.ref ea7) = some false)
    (ki_InvalidSet_1 : PySem.W.kitOne K (.ref ea1) (.ref ea7) = some false)
    (ki_InvalidSet_2 : PySem.W.kitOne K (.ref ea2) (.ref ea7) = some false)
    (ki_InvalidSet_3 : PySem.W.kitOne K (.ref ea3) (.ref ea7) = some false)
    (ki_InvalidSet_4 : PySem.W.kitOne K (.ref ea4) (.ref ea7) = some false)
    (ki_InvalidSet_5 : PySem.W.kitOne K (.ref ea5) (.ref ea7) = some false)
    (ki_InvalidSet_6 : PySem.W.kitOne K (.ref ea6) (.ref ea7) = some false)
    (ki_InvalidSet_7 : PySem.W.kitOne K (.ref ea7) (.ref ea7) = some true)
    (ki_AgedReadsError_0 : PySem.W.kitOne K (.ref ea0) (.ref eB_AgedReadsError) = some true)
    (ki_AgedReadsError_1 : PySem.W.kitOne K (.ref ea1) (.ref eB_AgedReadsError) = some true)
    (ki_AgedReadsError_2 : PySem.W.kitOne K (.ref ea2) (.ref eB_AgedReadsError) = some true)
    (ki_AgedReadsError_3 : PySem.W.kitOne K (.ref ea3) (.ref eB_AgedReadsError) = some true)
    (ki_AgedReadsError_4 : PySem.W.kitOne K (.ref ea4) (.ref eB_AgedReadsError) = some true)
    (ki_AgedReadsError_5 : PySem.W.kitOne K (.ref ea5) (.ref eB_AgedReadsError) = some true)
    (ki_AgedReadsError_6 : PySem.W.kitOne K (.ref ea6) (.ref eB_AgedReadsError) = some true)
    (ki_AgedReadsError_7 : PySem.W.kitOne K (.ref ea7) (.ref eB_AgedReadsError) = some true)
    (ki_ValueError_0 : PySem.W.kitOne K (.ref ea0) (.type "ValueError") = some true)
    (ki_ValueError_1 : PySem.W.kitOne K (.ref ea1) (.type "ValueError") = some true)
    (ki_ValueError_2 : PySem.W.kitOne K (.ref ea2) (.type "ValueError") = some true)
    (ki_ValueError_3 : PySem.W.kitOne K (.ref ea3) (.type "ValueError") = some true)
    (ki_ValueError_4 : PySem.W.kitOne K (.ref ea4) (.type "ValueError") = some true)
    (ki_ValueError_5 : PySem.W.kitOne K (.ref ea5) (.type "ValueError") = some true)
    (ki_ValueError_6 : PySem.W.kitOne K (.ref ea6) (.type "ValueError") = some true)
    (ki_ValueError_7 : PySem.W.kitOne K (.ref ea7) (.type "ValueError") = some true) :
    EndT l w K 3 "_law_script" mg fa [] := by
  have e := hfa.symm.trans (PySem.W.mg_of X G a5)
  cases e
  refine ⟨[], fun p hp => ?_, fun p hp => ?_, PySem.W.fnOf "law" "law" (defArgs s_law) (defBody s_law) (defScope s_law) .none kV5 dc5 pm5 an5 cd5 ct5, fun s v => .of_eq rfl, fun base kb nb hTB => ⟨⟨K, clsA ea0 ea1 ea2 ea3 ea4 ea5 ea6 ea7, fldA, [], w, l.prog, mg, base, 1⟩, rfl, fun p hp => ?_, ?_⟩⟩
  · cases hp
  · cases hp
  · cases hp
  have T : Txt ⟨K, clsA ea0 ea1 ea2 ea3 ea4 ea5 ea6 ea7, fldA, [], w, l.prog, mg, base, 1⟩ mg := {
    n_ValueError := PySem.W.mg_none_of X G z_ValueError
    n_int := PySem.W.mg_none_of X G z_int
    n_isinstance := PySem.W.mg_none_of X G z_isinstance
    n_len := PySem.W.mg_none_of X G z_len
    n_list := PySem.W.mg_none_of X G z_list
    n_max := PySem.W.mg_none_of X G z_max
    n_range := PySem.W.mg_none_of X G z_range
    n_repr := PySem.W.mg_none_of X G z_repr
    n_super := PySem.W.mg_none_of X G z_super
    xv := (xv_cons (k := 0) ⟨xg0, xh0, xx0, xn0⟩ xw0 (xv_cons (k := 1) ⟨xg1, xh1, xx1, xn1⟩ xw1 (xv_cons (k := 2) ⟨xg2, xh2, xx2, xn2⟩ xw2 (xv_cons (k := 3) ⟨xg3, xh3, xx3, xn3⟩ xw3 (xv_cons (k := 4) ⟨xg4, xh4, xx4, xn4⟩ xw4 (xv_cons (k := 5) ⟨xg5, xh5, xx5, xn5⟩ xw5 (xv_cons (k := 6) ⟨xg6, xh6, xx6, xn6⟩ xw6 (xv_cons (k := 7) ⟨xg7, xh7, xx7, xn7⟩ xw7 xv_nil))))))))
    xi_InvalidStep := ⟨_, PySem.W.mg_of X G xa0, (xi_cons (k := 0) ⟨xg0, xh0, xx0, xn0, xha0, hn, tk, xhm0⟩ ki_InvalidStep_0 (xi_cons (k := 1) ⟨xg1, xh1, xx1, xn1, xha1, hn, tk, xhm1⟩ ki_InvalidStep_1 (xi_cons (k := 2) ⟨xg2, xh2, xx2, xn2, xha2, hn, tk, xhm2⟩ ki_InvalidStep_2 (xi_cons (k := 3) ⟨xg3, xh3, xx3, xn3, xha3, hn, tk, xhm3⟩ ki_InvalidStep_3 (xi_cons (k := 4) ⟨xg4, xh4, xx4, xn4, xha4, hn, tk, xhm4⟩ ki_InvalidStep_4 (xi_cons (k := 5) ⟨xg5, xh5, xx5, xn5, xha5, hn, tk, xhm5⟩ ki_InvalidStep_5 (xi_cons (k := 6) ⟨xg6, xh6, xx6, xn6, xha6, hn, tk, xhm6⟩ ki_InvalidStep_6 (xi_cons (k := 7) ⟨xg7, xh7, xx7, xn7, xha7, hn, tk, xhm7⟩ ki_InvalidStep_7 xi_nil))))))))⟩
    xi_InvalidNet := ⟨_, PySem.W.mg_of X G xa1, (xi_cons (k := 0) ⟨xg0, xh0, xx0, xn0, xha0, hn, tk, xhm0⟩ ki_InvalidNet_0 (xi_cons (k := 1) ⟨xg1, xh1, xx1, xn1, xha1, hn, tk, xhm1⟩ ki_InvalidNet_1 (xi_cons (k := 2) ⟨xg2, xh2, xx2, xn2, xha2, hn, tk, xhm2⟩ ki_InvalidNet_2 (xi_cons (k := 3) ⟨xg3, xh3, xx3, xn3, xha3, hn, tk, xhm3⟩ ki_InvalidNet_3 (xi_cons (k := 4) ⟨xg4, xh4, xx4, xn4, xha4, hn, tk, xhm4⟩ ki_InvalidNet_4 (xi_cons (k := 5) ⟨xg5, xh5, xx5, xn5, xha5, hn, tk, xhm5⟩ ki_InvalidNet_5 (xi_cons (k := 6) ⟨xg6, xh6, xx6, xn6, xha6, hn, tk, xhm6⟩ ki_InvalidNet_6 (xi_cons (k := 7) ⟨xg7, xh7, xx7, xn7, xha7, hn, tk, xhm7⟩ ki_InvalidNet_7 xi_nil))))))))⟩
    xi_InvalidPhases := ⟨_, PySem.W.mg_of X G xa2, (xi_cons (k := 0) ⟨xg0, xh0, xx0, xn0, xha0, hn, tk, xhm0⟩ ki_InvalidPhases_0 (xi_cons (k := 1) ⟨xg1, xh1, xx1, xn1, xha1, hn, tk, xhm1⟩ ki_InvalidPhases_1 (xi_cons (k := 2) ⟨xg2, xh2, xx2, xn2, xha2, hn, tk, xhm2⟩ ki_InvalidPhases_2 (xi_cons (k := 3) ⟨xg3, xh3, xx3, xn3, xha3, hn, tk, xhm3⟩ ki_InvalidPhases_3 (xi_cons (k := 4) ⟨xg4, xh4, xx4, xn4, xha4, hn, tk, xhm4⟩ ki_InvalidPhases_4 (xi_cons (k := 5) ⟨xg5, xh5, xx5, xn5, xha5, hn, tk, xhm5⟩ ki_InvalidPhases_5 (xi_cons (k := 6) ⟨xg6, xh6, xx6, xn6, xha6, hn, tk, xhm6⟩ ki_InvalidPhases_6 (xi_cons (k := 7) ⟨xg7, xh7, xx7, xn7, xha7, hn, tk, xhm7⟩ ki_InvalidPhases_7 xi_nil))))))))⟩
    xi_InvalidPath := ⟨_, PySem.W.mg_of X G xa3, (xi_cons (k := 0) ⟨xg0, xh0, xx0, xn0, xha0, hn, tk, xhm0⟩ ki_InvalidPath_0 (xi_cons (k := 1) ⟨xg1, xh1, xx1, xn1, xha1, hn, tk, xhm1⟩ ki_InvalidPath_1 (xi_cons (k := 2) ⟨xg2, xh2, xx2, xn2, xha2, hn, tk, xhm2⟩ ki_InvalidPath_2 (xi_cons (k := 3) ⟨xg3, xh3, xx3, xn3, xha3, hn, tk, xhm3⟩ ki_InvalidPath_3 (xi_cons (k := 4) ⟨xg4, xh4, xx4, xn4, xha4, hn, tk, xhm4⟩ ki_InvalidPath_4 (xi_cons (k := 5) ⟨xg5, xh5, xx5, xn5, xha5, hn, tk, xhm5⟩ ki_InvalidPath_5 (xi_cons (k := 6) ⟨xg6, xh6, xx6, xn6, xha6, hn, tk, xhm6⟩ ki_InvalidPath_6 (xi_cons (k := 7) ⟨xg7, xh7, xx7, xn7, xha7, hn, tk, xhm7⟩ ki_InvalidPath_7 xi_nil))))))))⟩
    xi_InvalidName := ⟨_, PySem.W.mg_of X G xa4, (xi_cons (k := 0) ⟨xg0, xh0, xx0, xn0, xha0, hn, tk, xhm0⟩ ki_InvalidName_0 (xi_cons (k := 1) ⟨xg1, xh1, xx1, xn1, xha1, hn, tk, xhm1⟩ ki_InvalidName_1 (xi_cons (k := 2) ⟨xg2, xh2, xx2, xn2, xha2, hn, tk, xhm2⟩ ki_InvalidName_2 (xi_cons (k := 3) ⟨xg3, xh3, xx3, xn3, xha3, hn, tk, xhm3⟩ ki_InvalidName_3 (xi_cons (k := 4) ⟨xg4, xh4, xx4, xn4, xha4, hn, tk, xhm4⟩ ki_InvalidName_4 (xi_cons (k := 5) ⟨xg5, xh5, xx5, xn5, xha5, hn, tk, xhm5⟩ ki_InvalidName_5 (xi_cons (k := 6) ⟨xg6, xh6, xx6, xn6, xha6, hn, tk, xhm6⟩ ki_InvalidName_6 (xi_cons (k := 7) ⟨xg7, xh7, xx7, xn7, xha7, hn, tk, xhm7⟩ ki_InvalidName_7 xi_nil))))))))⟩
    xi_InvalidNames := ⟨_, PySem.W.mg_of X G xa5, (xi_cons (k := 0) ⟨xg0, xh0, xx0, xn0, xha0, hn, tk, xhm0⟩ ki_InvalidNames_0 (xi_cons (k := 1) ⟨xg1, xh1, xx1, xn1, xha1, hn, tk, xhm1⟩ ki_InvalidNames_1 (xi_cons (k := 2) ⟨xg2, xh2, xx2, xn2, xha2, hn, tk, xhm2⟩ ki_InvalidNames_2 (xi_cons (k := 3) ⟨xg3, xh3, xx3, xn3, xha3, hn, tk, xhm3⟩ ki_InvalidNames_3 (xi_cons (k := 4) ⟨xg4, xh4, xx4, xn4, xha4, hn, tk, xhm4⟩ ki_InvalidNames_4 (xi_cons (k := 5) ⟨xg5, xh5, xx5, xn5, xha5, hn, tk, xhm5⟩ ki_InvalidNames_5 (xi_cons (k := 6) ⟨xg6, xh6, xx6, xn6, xha6, hn, tk, xhm6⟩ ki_InvalidNames_6 (xi_cons (k := 7) ⟨xg7, xh7, xx7, xn7, xha7, hn, tk, xhm7⟩ ki_InvalidNames_7 xi_nil))))))))⟩
    xi_InvalidNumber := ⟨_, PySem.W.mg_of X G xa6, (xi_cons (k := 0) ⟨xg0, xh0, xx0, xn0, xha0, hn, tk, xhm0⟩ ki_InvalidNumber_0 (xi_cons (k := 1) ⟨xg1, xh1, xx1, xn1, xha1, hn, tk, xhm1⟩ ki_InvalidNumber_1 (xi_cons (k := 2) ⟨xg2, xh2, xx2, xn2, xha2, hn, tk, xhm2⟩ ki_InvalidNumber_2 (xi_cons (k := 3) ⟨xg3, xh3, xx3, xn3, xha3, hn, tk, xhm3⟩ ki_InvalidNumber_3 (xi_cons (k := 4) ⟨xg4, xh4, xx4, xn4, xha4, hn, tk, xhm4⟩ ki_InvalidNumber_4 (xi_cons (k := 5) ⟨xg5, xh5, xx5, xn5, xha5, hn, tk, xhm5⟩ ki_InvalidNumber_5 (xi_cons (k := 6) ⟨xg6, xh6, xx6, xn6, xha6, hn, tk, xhm6⟩ ki_InvalidNumber_6 (xi_cons (k := 7) ⟨xg7, xh7, xx7, xn7, xha7, hn, tk, xhm7⟩ ki_InvalidNumber_7 xi_nil))))))))⟩
    xi_InvalidSet := ⟨_, PySem.W.mg_of X G xa7, (xi_cons (k := 0) ⟨xg0, xh0, xx0, xn0, xha0, hn, tk, xhm0⟩ ki_InvalidSet_0 (xi_cons (k := 1) ⟨xg1, xh1, xx1, xn1, xha1, hn, tk, xhm1⟩ ki_InvalidSet_1 (xi_cons (k := 2) ⟨xg2, xh2, xx2, xn2, xha2, hn, tk, xhm2⟩ ki_InvalidSet_2 (xi_cons (k := 3) ⟨xg3, xh3, xx3, xn3, xha3, hn, tk, xhm3⟩ ki_InvalidSet_3 (xi_cons (k := 4) ⟨xg4, xh4, xx4, xn4, xha4, hn, tk, xhm4⟩ ki_InvalidSet_4 (xi_cons (k := 5) ⟨xg5, xh5, xx5, xn5, xha5, hn, tk, xhm5⟩ ki_InvalidSet_5 (xi_cons (k := 6) ⟨xg6, xh6, xx6, xn6, xha6, hn, tk, xhm6⟩ ki_InvalidSet_6 (xi_cons (k := 7) ⟨xg7, xh7, xx7, xn7, xha7, hn, tk, xhm7⟩ ki_InvalidSet_7 xi_nil))))))))⟩
    xi_AgedReadsError := ⟨_, PySem.W.mg_of X G xB_AgedReadsError, (xi_cons (k := 0) ⟨xg0, xh0, xx0, xn0, xha0, hn, tk, xhm0⟩ ki_AgedReadsError_0 (xi_cons (k := 1) ⟨xg1, xh1, xx1, xn1, xha1, hn, tk, xhm1⟩ ki_AgedReadsError_1 (xi_cons (k := 2) ⟨xg2, xh2, xx2, xn2, xha2, hn, tk, xhm2⟩ ki_AgedReadsError_2 (xi_cons (k := 3) ⟨xg3, xh3, xx3, xn3, xha3, hn, tk, xhm3⟩ ki_AgedReadsError_3 (xi_cons (k := 4) ⟨xg4, xh4, xx4, xn4, xha4, hn, tk, xhm4⟩ ki_AgedReadsError_4 (xi_cons (k := 5) ⟨xg5, xh5, xx5, xn5, xha5, hn, tk, xhm5⟩ ki_AgedReadsError_5 (xi_cons (k := 6) ⟨xg6, xh6, xx6, xn6, xha6, hn, tk, xhm6⟩ ki_AgedReadsError_6 (xi_cons (k := 7) ⟨xg7, xh7, xx7, xn7, xha7, hn, tk, xhm7⟩ ki_AgedReadsError_7 xi_nil))))))))⟩
    xi_ValueError := (xi_cons (k := 0) ⟨xg0, xh0, xx0, xn0, xha0, hn, tk, xhm0⟩ ki_ValueError_0 (xi_cons (k := 1) ⟨xg1, xh1, xx1, xn1, xha1, hn, tk, xhm1⟩ ki_ValueError_1 (xi_cons (k := 2) ⟨xg2, xh2, xx2, xn2, xha2, hn, tk, xhm2⟩ ki_ValueError_2 (xi_cons (k := 3) ⟨xg3, xh3, xx3, xn3, xha3, hn, tk, xhm3⟩ ki_ValueError_3 (xi_cons (k := 4) ⟨xg4, xh4, xx4, xn4, xha4, hn, tk, xhm4⟩ ki_ValueError_4 (xi_cons (k := 5) ⟨xg5, xh5, xx5, xn5, xha5, hn, tk, xhm5⟩ ki_ValueError_5 (xi_cons (k := 6) ⟨xg6, xh6, xx6, xn6, xha6, hn, tk, xhm6⟩ ki_ValueError_6 (xi_cons (k := 7) ⟨xg7, xh7, xx7, xn7, xha7, hn, tk, xhm7⟩ ki_ValueError_7 xi_nil)))))))) }
  have F0 := fun_mk (st := s_law_purse) l0 c0 k0
  have b0 := F0.binds (ps := ["_law_script", "_law_at"]) fun _ _ _ _ _ _ us hl => match us, hl with | [_, _], _ => rfl
  have F1 := fun_mk (st := s_law_draw) l1 c1 k1
  have b1 := F1.binds (ps := ["_law_purse_here", "_law_many"]) fun _ _ _ _ _ _ us hl => match us, hl with | [_, _], _ => rfl
  have F2 := fun_mk (st := s_law_pick) l2 c2 k2
  have b2 := F2.binds (ps := ["_law_purse_here", "_law_items"]) fun _ _ _ _ _ _ us hl => match us, hl with | [_, _], _ => rfl
  have F3 := fun_mk (st := s_law_classes) l3 c3 k3
  have b3 := F3.binds (ps := ["_law_error"]) fun _ _ _ _ _ _ us hl => match us, hl with | [_], _ => rfl
  have F4 := fun_mk (st := s_law_right) l4 c4 k4
  have b4 := F4.binds (ps := ["_law_errors", "_law_given"]) fun _ _ _ _ _ _ us hl => match us, hl with | [_, _], _ => rfl
  have F5 := fun_mk (st := s_law) l5 c5 k5
  have b5 := F5.binds (ps := ["_law_script"]) fun _ _ _ _ _ _ us hl => match us, hl with | [_], _ => rfl
  have CE_InvalidStep : CalE l.prog ⟨K, clsA ea0 ea1 ea2 ea3 ea4 ea5 ea6 ea7, fldA, [], w, l.prog, mg, base, 1⟩ mg "InvalidStep" 0 := calE_mk (G := ⟨K, clsA ea0 ea1 ea2 ea3 ea4 ea5 ea6 ea7, fldA, [], w, l.prog, mg, base, 1⟩) 0 rfl sb_InvalidStep kp_InvalidStep kk_InvalidStep kn_InvalidStep (PySem.W.mg_of X G xa0) (PySem.W.mg_none_of X G z_super) xl0 xc0 xq0 xv0 xf0 xe0 xt0 xp0 xC0 xb0 xs0 xx0 xy0 xk0 xu0 xo0 xw0 xi0 xt_0 xm0 xd0
  have CE_InvalidNet : CalE l.prog ⟨K, clsA ea0 ea1 ea2 ea3 ea4 ea5 ea6 ea7, fldA, [], w, l.prog, mg, base, 1⟩ mg "InvalidNet" 1 := calE_mk (G := ⟨K, clsA ea0 ea1 ea2 ea3 ea4 ea5 ea6 ea7, fldA, [], w, l.prog, mg, base, 1⟩) 1 rfl sb_InvalidNet kp_InvalidNet kk_InvalidNet kn_InvalidNet (PySem.W.mg_of X G xa1) (PySem.W.mg_none_of X G z_super) xl1 xc1 xq1 xv1 xf1 xe1 xt1 xp1 xC1 xb1 xs1 xx1 xy1 xk1 xu1 xo1 xw1 xi1 xt_1 xm1 xd1
  have CE_InvalidPhases : CalE l.prog ⟨K, clsA ea0 ea1 ea2 ea3 ea4 ea5 ea6 ea7, fldA, [], w, l.prog, mg, base, 1⟩ mg "InvalidPhases" 2 := calE_mk (G := ⟨K, clsA ea0 ea1 ea2 ea3 ea4 ea5 ea6 ea7, fldA, [], w, l.prog, mg, base, 1⟩) 2 rfl sb_InvalidPhases kp_InvalidPhases kk_InvalidPhases kn_InvalidPhases (PySem.W.mg_of X G xa2) (PySem.W.mg_none_of X G z_super) xl2 xc2 xq2 xv2 xf2 xe2 xt2 xp2 xC2 xb2 xs2 xx2 xy2 xk2 xu2 xo2 xw2 xi2 xt_2 xm2 xd2
  have CE_InvalidPath : CalE l.prog ⟨K, clsA ea0 ea1 ea2 ea3 ea4 ea5 ea6 ea7, fldA, [], w, l.prog, mg, base, 1⟩ mg "InvalidPath" 3 := calE_mk (G := ⟨K, clsA ea0 ea1 ea2 ea3 ea4 ea5 ea6 ea7, fldA, [], w, l.prog, mg, base, 1⟩) 3 rfl sb_InvalidPath kp_InvalidPath kk_InvalidPath kn_InvalidPath (PySem.W.mg_of X G xa3) (PySem.W.mg_none_of X G z_super) xl3 xc3 xq3 xv3 xf3 xe3 xt3 xp3 xC3 xb3 xs3 xx3 xy3 xk3 xu3 xo3 xw3 xi3 xt_3 xm3 xd3
  have CE_InvalidName : CalE l.prog ⟨K, clsA ea0 ea1 ea2 ea3 ea4 ea5 ea6 ea7, fldA, [], w, l.prog, mg, base, 1⟩ mg "InvalidName" 4 := calE_mk (G := ⟨K, clsA ea0 ea1 ea2 ea3 ea4 ea5 ea6 ea7, fldA, [], w, l.prog, mg, base, 1⟩) 4 rfl sb_InvalidName kp_InvalidName kk_InvalidName kn_InvalidName (PySem.W.mg_of X G xa4) (PySem.W.mg_none_of X G z_super) xl4 xc4 xq4 xv4 xf4 xe4 xt4 xp4 xC4 xb4 xs4 xx4 xy4 xk4 xu4 xo4 xw4 xi4 xt_4 xm4 xd4
  have CE_InvalidNames : CalE l.prog ⟨K, clsA ea0 ea1 ea2 ea3 ea4 ea5 ea6 ea7, fldA, [], w, l.prog, mg, base, 1⟩ mg "InvalidNames" 5 := calE_mk (G := ⟨K, clsA ea0 ea1 ea2 ea3 ea4 ea5 ea6 ea7, fldA, [], w, l.prog, mg, base, 1⟩) 5 rfl sb_InvalidNames kp_InvalidNames kk_InvalidNames kn_InvalidNames (PySem.W.mg_of X G xa5) (PySem.W.mg_none_of X G z_super) xl5 xc5 xq5 xv5 xf5 xe5 xt5 xp5 xC5 xb5 xs5 xx5 xy5 xk5 xu5 xo5 xw5 xi5 xt_5 xm5 xd5
  have CE_InvalidNumber : CalE l.prog ⟨K, clsA ea0 ea1 ea2 ea3 ea4 ea5 ea6 ea7, fldA, [], w, l.prog, mg, base, 1⟩ mg "InvalidNumber" 6 := calE_mk (G := ⟨K, clsA ea0 ea1 ea2 ea3 ea4 ea5 ea6 ea7, fldA, [], w, l.prog, mg, base, 1⟩) 6 rfl sb_InvalidNumber kp_InvalidNumber kk_InvalidNumber kn_InvalidNumber (PySem.W.mg_of X G xa6) (PySem.W.mg_none_of X G z_super) xl6 xc6 xq6 xv6 xf6 xe6 xt6 xp6 xC6 xb6 xs6 xx6 xy6 xk6 xu6 xo6 xw6 xi6 xt_6 xm6 xd6
  have CE_InvalidSet : CalE l.prog ⟨K, clsA ea0 ea1 ea2 ea3 ea4 ea5 ea6 ea7, fldA, [], w, l.prog, mg, base, 1⟩ mg "InvalidSet" 7 := calE_mk (G := ⟨K, clsA ea0 ea1 ea2 ea3 ea4 ea5 ea6 ea7, fldA, [], w, l.prog, mg, base, 1⟩) 7 rfl sb_InvalidSet kp_InvalidSet kk_InvalidSet kn_InvalidSet (PySem.W.mg_of X G xa7) (PySem.W.mg_none_of X G z_super) xl7 xc7 xq7 xv7 xf7 xe7 xt7 xp7 xC7 xb7 xs7 xx7 xy7 xk7 xu7 xo7 xw7 xi7 xt_7 xm7 xd7
  have O0 := ok_law_purse (G := ⟨K, clsA ea0 ea1 ea2 ea3 ea4 ea5 ea6 ea7, fldA, [], w, l.prog, mg, base, 1⟩) T F0 
  have C__law_purse : CalM l.prog w ⟨K, clsA ea0 ea1 ea2 ea3 ea4 ea5 ea6 ea7, fldA, [], w, l.prog, mg, base, 1⟩ mg base "_law_purse" 1 2 m_law_purse := ⟨_, _, _, PySem.W.mg_of X G a0, k0, b0, O0⟩
  have O1 := ok_law_draw (G := ⟨K, clsA ea0 ea1 ea2 ea3 ea4 ea5 ea6 ea7, fldA, [], w, l.prog, mg, base, 1⟩) T F1 
  have C__law_draw : Cal l.prog w ⟨K, clsA ea0 ea1 ea2 ea3 ea4 ea5 ea6 ea7, fldA, [], w, l.prog, mg, base, 1⟩ mg base "_law_draw" 1 2 m_law_draw := ⟨_, _, _, PySem.W.mg_of X G a1, k1, b1, O1⟩
  have O2 := ok_law_pick (G := ⟨K, clsA ea0 ea1 ea2 ea3 ea4 ea5 ea6 ea7, fldA, [], w, l.prog, mg, base, 1⟩) T F2 C__law_draw
  have C__law_pick : Cal l.prog w ⟨K, clsA ea0 ea1 ea2 ea3 ea4 ea5 ea6 ea7, fldA, [], w, l.prog, mg, base, 1⟩ mg base "_law_pick" 2 2 m_law_pick := ⟨_, _, _, PySem.W.mg_of X G a2, k2, b2, O2⟩
  have O3 := ok_law_classes (G := ⟨K, clsA ea0 ea1 ea2 ea3 ea4 ea5 ea6 ea7, fldA, [], w, l.prog, mg, base, 1⟩) T F3 
  have C__law_classes : Cal l.prog w ⟨K, clsA ea0 ea1 ea2 ea3 ea4 ea5 ea6 ea7, fldA, [], w, l.prog, mg, base, 1⟩ mg base "_law_classes" 1 1 m_law_classes := ⟨_, _, _, PySem.W.mg_of X G a3, k3, b3, O3⟩
  have O4 := ok_law_right (G := ⟨K, clsA ea0 ea1 ea2 ea3 ea4 ea5 ea6 ea7, fldA, [], w, l.prog, mg, base, 1⟩) T F4 C__law_classes
  have C__law_right : CalG l.prog w ⟨K, clsA ea0 ea1 ea2 ea3 ea4 ea5 ea6 ea7, fldA, [], w, l.prog, mg, base, 1⟩ mg base "_law_right" 2 2 m_law_right := ⟨_, _, _, PySem.W.mg_of X G a4, k4, b4, O4⟩
  have O5 := ok_law (G := ⟨K, clsA ea0 ea1 ea2 ea3 ea4 ea5 ea6 ea7, fldA, [], w, l.prog, mg, base, 1⟩) T F5 C__law_purse C__law_draw C__law_pick CE_InvalidStep CE_InvalidNet CE_InvalidPhases CE_InvalidPath CE_InvalidName CE_InvalidNames CE_InvalidNumber CE_InvalidSet C__law_right law_all
  exact O5
end Toy
open PySem PySem.W PyProof.Rows
set_option maxRecDepth 100000 in
set_option maxHeartbeats 0 in
theorem PySem.Challenge.cw_agedreads_k01_errors_made_holds : PySem.Challenge.rw_agedreads_k01_errors_made.Holds := by
  w_on; o_law; k_head; (case hw => w_witness2)
  k_fill
  refine VS.walk_ofT (l := PySem.Challenge.rw_agedreads_k01_errors_made) (k := 3) (x := "_law_script") [] rfl rfl ⟨rfl, by decide, by decide⟩ (fun w h Y => by first | exact PySem.W.kIn_of Y | exact PySem.W.km_in_of Y) (by decide +kernel) ?F
  case F =>
    intro w mg fa h KX G hmg
    refine' Toy.all_mk KX G hmg ?xa0 ?xi0 ?xl0 ?xc0 ?xq0 ?xv0 ?xf0 ?xe0 ?xt0 ?xp0 ?xC0 ?xb0 ?xs0 ?xx0 ?xy0 ?xk0 ?xu0 ?xo0 ?xw0 ?xt_0 ?xm0 ?xd0 ?xg0 ?xh0 ?xn0 ?xa1 ?xi1 ?xl1 ?xc1 ?xq1 ?xv1 ?xf1 ?xe1 ?xt1 ?xp1 ?xC1 ?xb1 ?xs1 ?xx1 ?xy1 ?xk1 ?xu1 ?xo1 ?xw1 ?xt_1 ?xm1 ?xd1 ?xg1 ?xh1 ?xn1 ?xa2 ?xi2 ?xl2 ?xc2 ?xq2 ?xv2 ?xf2 ?xe2 ?xt2 ?xp2 ?xC2 ?xb2 ?xs2 ?xx2 ?xy2 ?xk2 ?xu2 ?xo2 ?xw2 ?xt_2 ?xm2 ?xd2 ?xg2 ?xh2 ?xn2 ?xa3 ?xi3 ?xl3 ?xc3 ?xq3 ?xv3 ?xf3 ?xe3 ?xt3 ?xp3 ?xC3 ?xb3 ?xs3 ?xx3 ?xy3 ?xk3 ?xu3 ?xo3 ?xw3 ?xt_3 ?xm3 ?xd3 ?xg3 ?xh3 ?xn3 ?xa4 ?xi4 ?xl4 ?xc4 ?xq4 ?xv4 ?xf4 ?xe4 ?xt4 ?xp4 ?xC4 ?xb4 ?xs4 ?xx4 ?xy4 ?xk4 ?xu4 ?xo4 ?xw4 ?xt_4 ?xm4 ?xd4 ?xg4 ?xh4 ?xn4 ?xa5 ?xi5 ?xl5 ?xc5 ?xq5 ?xv5 ?xf5 ?xe5 ?xt5 ?xp5 ?xC5 ?xb5 ?xs5 ?xx5 ?xy5 ?xk5 ?xu5 ?xo5 ?xw5 ?xt_5 ?xm5 ?xd5 ?xg5 ?xh5 ?xn5 ?xa6 ?xi6 ?xl6 ?xc6 ?xq6 ?xv6 ?xf6 ?xe6 ?xt6 ?xp6 ?xC6 ?xb6 ?xs6 ?xx6 ?xy6 ?xk6 ?xu6 ?xo6 ?xw6 ?xt_6 ?xm6 ?xd6 ?xg6 ?xh6 ?xn6 ?xa7 ?xi7 ?xl7 ?xc7 ?xq7 ?xv7 ?xf7 ?xe7 ?xt7 ?xp7 ?xC7 ?xb7 ?xs7 ?xx7 ?xy7 ?xk7 ?xu7 ?xo7 ?xw7 ?xt_7 ?xm7 ?xd7 ?xg7 ?xh7 ?xn7 ?hn ?tk ?a0 ?l0 ?c0 ?k0 ?a1 ?l1 ?c1 ?k1 ?a2 ?l2 ?c2 ?k2 ?a3 ?l3 ?c3 ?k3 ?a4 ?l4 ?c4 ?k4 ?a5 ?l5 ?c5 ?k5 ?z_ValueError ?z_int ?z_isinstance ?z_len ?z_list ?z_max ?z_range ?z_repr ?z_super ?xha0 ?xhm0 ?xha1 ?xhm1 ?xha2 ?xhm2 ?xha3 ?xhm3 ?xha4 ?xhm4 ?xha5 ?xhm5 ?xha6 ?xhm6 ?xha7 ?xhm7 ?xB_AgedReadsError ?ki_InvalidStep_0 ?ki_InvalidStep_1 ?ki_InvalidStep_2 ?ki_InvalidStep_3 ?ki_InvalidStep_4 ?ki_InvalidStep_5 ?ki_InvalidStep_6 ?ki_InvalidStep_7 ?ki_InvalidNet_0 ?ki_InvalidNet_1 ?ki_InvalidNet_2 ?ki_InvalidNet_3 ?ki_InvalidNet_4 ?ki_InvalidNet_5 ?ki_InvalidNet_6 ?ki_InvalidNet_7 ?ki_InvalidPhases_0 ?ki_InvalidPhases_1 ?ki_InvalidPhases_2 ?ki_InvalidPhases_3 ?ki_InvalidPhases_4 ?ki_InvalidPhases_5 ?ki_InvalidPhases_6 ?ki_InvalidPhases_7 ?ki_InvalidPath_0 ?ki_InvalidPath_1 ?ki_InvalidPath_2 ?ki_InvalidPath_3 ?ki_InvalidPath_4 ?ki_InvalidPath_5 ?ki_InvalidPath_6 ?ki_InvalidPath_7 ?ki_InvalidName_0 ?ki_InvalidName_1 ?ki_InvalidName_2 ?ki_InvalidName_3 ?ki_InvalidName_4 ?ki_InvalidName_5 ?ki_InvalidName_6 ?ki_InvalidName_7 ?ki_InvalidNames_0 ?ki_InvalidNames_1 ?ki_InvalidNames_2 ?ki_InvalidNames_3 ?ki_InvalidNames_4 ?ki_InvalidNames_5 ?ki_InvalidNames_6 ?ki_InvalidNames_7 ?ki_InvalidNumber_0 ?ki_InvalidNumber_1 ?ki_InvalidNumber_2 ?ki_InvalidNumber_3 ?ki_InvalidNumber_4 ?ki_InvalidNumber_5 ?ki_InvalidNumber_6 ?ki_InvalidNumber_7 ?ki_InvalidSet_0 ?ki_InvalidSet_1 ?ki_InvalidSet_2 ?ki_InvalidSet_3 ?ki_InvalidSet_4 ?ki_InvalidSet_5 ?ki_InvalidSet_6 ?ki_InvalidSet_7 ?ki_AgedReadsError_0 ?ki_AgedReadsError_1 ?ki_AgedReadsError_2 ?ki_AgedReadsError_3 ?ki_AgedReadsError_4 ?ki_AgedReadsError_5 ?ki_AgedReadsError_6 ?ki_AgedReadsError_7 ?ki_ValueError_0 ?ki_ValueError_1 ?ki_ValueError_2 ?ki_ValueError_3 ?ki_ValueError_4 ?ki_ValueError_5 ?ki_ValueError_6 ?ki_ValueError_7
    (case xa0 => k_is); (case xi0 => k_is); (case xl0 => k_is); (case xc0 => k_is); (case xq0 => k_is); (case xv0 => first | exact rfl | kernel_rfl)
    (case xf0 => first | exact rfl | decide +kernel | kernel_rfl); (case xe0 => k_is); (case xt0 => k_is); (case xp0 => first | exact rfl | decide +kernel | kernel_rfl); (case xC0 => k_is); (case xb0 => first | exact rfl | decide +kernel | kernel_rfl)
    (case xs0 => k_is); (case xx0 => k_is); (case xy0 => k_is); (case xk0 => k_is); (case xu0 => ks_is); (case xo0 => k_is)
    (case xw0 => k_is); (case xt_0 => k_is); (case xm0 => k_is); (case xd0 => k_is); (case xg0 => k_is); (case xh0 => k_is)
    (case xn0 => k_is); (case xa1 => k_is); (case xi1 => k_is); (case xl1 => k_is); (case xc1 => k_is); (case xq1 => k_is)
    (case xv1 => first | exact rfl | kernel_rfl); (case xf1 => first | exact rfl | decide +kernel | kernel_rfl); (case xe1 => k_is); (case xt1 => k_is); (case xp1 => first | exact rfl | decide +kernel | kernel_rfl); (case xC1 => k_is)
    (case xb1 => first | exact rfl | decide +kernel | kernel_rfl); (case xs1 => k_is); (case xx1 => k_is); (case xy1 => k_is); (case xk1 => k_is); (case xu1 => ks_is)
    (case xo1 => k_is); (case xw1 => k_is); (case xt_1 => k_is); (case xm1 => k_is); (case xd1 => k_is); (case xg1 => k_is)
    (case xh1 => k_is); (case xn1 => k_is); (case xa2 => k_is); (case xi2 => k_is); (case xl2 => k_is); (case xc2 => k_is)
    (case xq2 => k_is); (case xv2 => first | exact rfl | kernel_rfl); (case xf2 => first | exact rfl | decide +kernel | kernel_rfl); (case xe2 => k_is); (case xt2 => k_is); (case xp2 => first | exact rfl | decide +kernel | kernel_rfl)
    (case xC2 => k_is); (case xb2 => first | exact rfl | decide +kernel | kernel_rfl); (case xs2 => k_is); (case xx2 => k_is); (case xy2 => k_is); (case xk2 => k_is)
    (case xu2 => ks_is); (case xo2 => k_is); (case xw2 => k_is); (case xt_2 => k_is); (case xm2 => k_is); (case xd2 => k_is)
    (case xg2 => k_is); (case xh2 => k_is); (case xn2 => k_is); (case xa3 => k_is); (case xi3 => k_is); (case xl3 => k_is)
    (case xc3 => k_is); (case xq3 => k_is); (case xv3 => first | exact rfl | kernel_rfl); (case xf3 => first | exact rfl | decide +kernel | kernel_rfl); (case xe3 => k_is); (case xt3 => k_is)
    (case xp3 => first | exact rfl | decide +kernel | kernel_rfl); (case xC3 => k_is); (case xb3 => first | exact rfl | decide +kernel | kernel_rfl); (case xs3 => k_is); (case xx3 => k_is); (case xy3 => k_is)
    (case xk3 => k_is); (case xu3 => ks_is); (case xo3 => k_is); (case xw3 => k_is); (case xt_3 => k_is); (case xm3 => k_is)
    (case xd3 => k_is); (case xg3 => k_is); (case xh3 => k_is); (case xn3 => k_is); (case xa4 => k_is); (case xi4 => k_is)
    (case xl4 => k_is); (case xc4 => k_is); (case xq4 => k_is); (case xv4 => first | exact rfl | kernel_rfl); (case xf4 => first | exact rfl | decide +kernel | kernel_rfl); (case xe4 => k_is)
    (case xt4 => k_is); (case xp4 => first | exact rfl | decide +kernel | kernel_rfl); (case xC4 => k_is); (case xb4 => first | exact rfl | decide +kernel | kernel_rfl); (case xs4 => k_is); (case xx4 => k_is)
    (case xy4 => k_is); (case xk4 => k_is); (case xu4 => ks_is); (case xo4 => k_is); (case xw4 => k_is); (case xt_4 => k_is)
    (case xm4 => k_is); (case xd4 => k_is); (case xg4 => k_is); (case xh4 => k_is); (case xn4 => k_is); (case xa5 => k_is)
    (case xi5 => k_is); (case xl5 => k_is); (case xc5 => k_is); (case xq5 => k_is); (case xv5 => first | exact rfl | kernel_rfl); (case xf5 => first | exact rfl | decide +kernel | kernel_rfl)
    (case xe5 => k_is); (case xt5 => k_is); (case xp5 => first | exact rfl | decide +kernel | kernel_rfl); (case xC5 => k_is); (case xb5 => first | exact rfl | decide +kernel | kernel_rfl); (case xs5 => k_is)
    (case xx5 => k_is); (case xy5 => k_is); (case xk5 => k_is); (case xu5 => ks_is); (case xo5 => k_is); (case xw5 => k_is)
    (case xt_5 => k_is); (case xm5 => k_is); (case xd5 => k_is); (case xg5 => k_is); (case xh5 => k_is); (case xn5 => k_is)
    (case xa6 => k_is); (case xi6 => k_is); (case xl6 => k_is); (case xc6 => k_is); (case xq6 => k_is); (case xv6 => first | exact rfl | kernel_rfl)
    (case xf6 => first | exact rfl | decide +kernel | kernel_rfl); (case xe6 => k_is); (case xt6 => k_is); (case xp6 => first | exact rfl | decide +kernel | kernel_rfl); (case xC6 => k_is); (case xb6 => first | exact rfl | decide +kernel | kernel_rfl)
    (case xs6 => k_is); (case xx6 => k_is); (case xy6 => k_is); (case xk6 => k_is); (case xu6 => ks_is); (case xo6 => k_is)
    (case xw6 => k_is); (case xt_6 => k_is); (case xm6 => k_is); (case xd6 => k_is); (case xg6 => k_is); (case xh6 => k_is)
    (case xn6 => k_is); (case xa7 => k_is); (case xi7 => k_is); (case xl7 => k_is); (case xc7 => k_is); (case xq7 => k_is)
    (case xv7 => first | exact rfl | kernel_rfl); (case xf7 => first | exact rfl | decide +kernel | kernel_rfl); (case xe7 => k_is); (case xt7 => k_is); (case xp7 => first | exact rfl | decide +kernel | kernel_rfl); (case xC7 => k_is)
    (case xb7 => first | exact rfl | decide +kernel | kernel_rfl); (case xs7 => k_is); (case xx7 => k_is); (case xy7 => k_is); (case xk7 => k_is); (case xu7 => ks_is)
    (case xo7 => k_is); (case xw7 => k_is); (case xt_7 => k_is); (case xm7 => k_is); (case xd7 => k_is); (case xg7 => k_is)
    (case xh7 => k_is); (case xn7 => k_is); (case hn => k_is); (case tk => k_is); (case a0 => k_is); (case l0 => k_is)
    (case c0 => k_is); (case k0 => k_is); (case a1 => k_is); (case l1 => k_is); (case c1 => k_is); (case k1 => k_is)
    (case a2 => k_is); (case l2 => k_is); (case c2 => k_is); (case k2 => k_is); (case a3 => k_is); (case l3 => k_is)
    (case c3 => k_is); (case k3 => k_is); (case a4 => k_is); (case l4 => k_is); (case c4 => k_is); (case k4 => k_is)
    (case a5 => k_is); (case l5 => k_is); (case c5 => k_is); (case k5 => k_is); (case z_ValueError => k_is); (case z_int => k_is)
    (case z_isinstance => k_is); (case z_len => k_is); (case z_list => k_is); (case z_max => k_is); (case z_range => k_is); (case z_repr => k_is)
    (case z_super => k_is); (case xha0 => k_is); (case xhm0 => k_is); (case xha1 => k_is); (case xhm1 => k_is); (case xha2 => k_is)
    (case xhm2 => k_is); (case xha3 => k_is); (case xhm3 => k_is); (case xha4 => k_is); (case xhm4 => k_is); (case xha5 => k_is)
    (case xhm5 => k_is); (case xha6 => k_is); (case xhm6 => k_is); (case xha7 => k_is); (case xhm7 => k_is); (case xB_AgedReadsError => k_is)
    (case ki_InvalidStep_0 => kit_is); (case ki_InvalidStep_1 => kit_is); (case ki_InvalidStep_2 => kit_is); (case ki_InvalidStep_3 => kit_is); (case ki_InvalidStep_4 => kit_is); (case ki_InvalidStep_5 => kit_is)
    (case ki_InvalidStep_6 => kit_is); (case ki_InvalidStep_7 => kit_is); (case ki_InvalidNet_0 => kit_is); (case ki_InvalidNet_1 => kit_is); (case ki_InvalidNet_2 => kit_is); (case ki_InvalidNet_3 => kit_is)
    (case ki_InvalidNet_4 => kit_is); (case ki_InvalidNet_5 => kit_is); (case ki_InvalidNet_6 => kit_is); (case ki_InvalidNet_7 => kit_is); (case ki_InvalidPhases_0 => kit_is); (case ki_InvalidPhases_1 => kit_is)
    (case ki_InvalidPhases_2 => kit_is); (case ki_InvalidPhases_3 => kit_is); (case ki_InvalidPhases_4 => kit_is); (case ki_InvalidPhases_5 => kit_is); (case ki_InvalidPhases_6 => kit_is); (case ki_InvalidPhases_7 => kit_is)
    (case ki_InvalidPath_0 => kit_is); (case ki_InvalidPath_1 => kit_is); (case ki_InvalidPath_2 => kit_is); (case ki_InvalidPath_3 => kit_is); (case ki_InvalidPath_4 => kit_is); (case ki_InvalidPath_5 => kit_is)
    (case ki_InvalidPath_6 => kit_is); (case ki_InvalidPath_7 => kit_is); (case ki_InvalidName_0 => kit_is); (case ki_InvalidName_1 => kit_is); (case ki_InvalidName_2 => kit_is); (case ki_InvalidName_3 => kit_is)
    (case ki_InvalidName_4 => kit_is); (case ki_InvalidName_5 => kit_is); (case ki_InvalidName_6 => kit_is); (case ki_InvalidName_7 => kit_is); (case ki_InvalidNames_0 => kit_is); (case ki_InvalidNames_1 => kit_is)
    (case ki_InvalidNames_2 => kit_is); (case ki_InvalidNames_3 => kit_is); (case ki_InvalidNames_4 => kit_is); (case ki_InvalidNames_5 => kit_is); (case ki_InvalidNames_6 => kit_is); (case ki_InvalidNames_7 => kit_is)
    (case ki_InvalidNumber_0 => kit_is); (case ki_InvalidNumber_1 => kit_is); (case ki_InvalidNumber_2 => kit_is); (case ki_InvalidNumber_3 => kit_is); (case ki_InvalidNumber_4 => kit_is); (case ki_InvalidNumber_5 => kit_is)
    (case ki_InvalidNumber_6 => kit_is); (case ki_InvalidNumber_7 => kit_is); (case ki_InvalidSet_0 => kit_is); (case ki_InvalidSet_1 => kit_is); (case ki_InvalidSet_2 => kit_is); (case ki_InvalidSet_3 => kit_is)
    (case ki_InvalidSet_4 => kit_is); (case ki_InvalidSet_5 => kit_is); (case ki_InvalidSet_6 => kit_is); (case ki_InvalidSet_7 => kit_is); (case ki_AgedReadsError_0 => kit_is); (case ki_AgedReadsError_1 => kit_is)
    (case ki_AgedReadsError_2 => kit_is); (case ki_AgedReadsError_3 => kit_is); (case ki_AgedReadsError_4 => kit_is); (case ki_AgedReadsError_5 => kit_is); (case ki_AgedReadsError_6 => kit_is); (case ki_AgedReadsError_7 => kit_is)
    (case ki_ValueError_0 => kit_is); (case ki_ValueError_1 => kit_is); (case ki_ValueError_2 => kit_is); (case ki_ValueError_3 => kit_is); (case ki_ValueError_4 => kit_is); (case ki_ValueError_5 => kit_is)
    (case ki_ValueError_6 => kit_is); (case ki_ValueError_7 => kit_is)
#print axioms PySem.Challenge.cw_agedreads_k01_errors_made_holds

