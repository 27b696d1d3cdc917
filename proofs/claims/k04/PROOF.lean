import PyProof.Rows.All
import Wide.All
import OpenK.AllK
import Wide.FinOn
import HandS.ForMost
import HandS.Dict
import KE.KDictCopyH
import HandS.Lambda
import HandS.ForExc
import HandS.CallSlots
import HandS.Rev
import HandS.RevRange
import HandS.Zip
import HandS.Defaults
import HandS.WordsExc
import HandS.Ends
import HandS.Wide
import HandS.WideBits
import HandS.TupAny
import HandS.TupLe
import HandS.IsInst
import HandS.More
import HandS.RevTup
import PyProof.ListRange
import PyProof.ListNew
import KE.KRevIter
import HandS.Comp
import HandS.ExcIs
import HandS.ExcField
import HandS.Small
import HandS.RaiseMore
import HandS.Deep
import PyProof.ReprRoads
import PyProof.ReprBulk
import PyProof.FitsInt
import HandS.Iter
import PyProof.Rows.ChunkEnd
import KE.DataMinMax
import KE.SortData
import HandS.Conv
import KE.SortKeyHeap
import KE.KLam
import HandS.ExcValue
import HandS.Nested
import HandS.SortInts
import KE.KBits
import KE.BitLaws
import KE.OsArith
import HandS.EndTab
import HandS.StrMore
import HandS.Replace
import HandS.ExcInit
import HandS.Codes
import KE.KDictZip
import HandS.TryOnly
import HandS.Strs
import KE.GoesMore
import KE.GoesEnum
import HandS.SetFor
import PySem.Challenge.RW_glowboard_k04_what_makes_no_picture
set_option Elab.async false
set_option linter.all false
set_option maxRecDepth 100000
set_option maxHeartbeats 4000000
namespace L2
open PySem PySem.Spec PyProof.Rows
/-! dicts whose keys are whole numbers and None -/
abbrev OKey := Option Int
def lfK : OKey → Leaf
  | none => .none
  | some i => .num i
theorem lfK_inj {a b : OKey} (h : lfK a = lfK b) : a = b := by
  cases a <;> cases b <;> first | rfl | (injection h with h; rw [h]) | cases h
def OKV (kvs : List (OKey × V)) (vs : List (Leaf × Value)) : Prop := Paired (fun (p : OKey × V) (q : Leaf × Value) => q.1 = lfK p.1 ∧ RelV p.2 q.2) kvs vs
def LDo (a : Addr) (kvs : List (OKey × V)) : HO := .ext fun h => kvs.length ≤ sizeLine ∧ (a == sysModules) = false ∧ ∃ vs : List (Leaf × Value), OKV kvs vs ∧ ∀ P w, h.DictOf (leafKind P w) a vs
def getO (k : OKey) : List (OKey × V) → Option V
  | [] => none
  | p :: ps => if p.1 = k then some p.2 else getO k ps
def putO (k : OKey) (v : V) : List (OKey × V) → List (OKey × V)
  | [] => [(k, v)]
  | p :: ps => if p.1 = k then (p.1, v) :: ps else p :: putO k v ps
theorem OKV.keys {kvs : List (OKey × V)} {vs : List (Leaf × Value)} (h : OKV kvs vs) : vs.map (·.1) = kvs.map fun p => lfK p.1 := by
  unfold OKV at h
  induction h with
  | nil => rfl
  | @cons p q ps qs h t ih => rw [List.map_cons, List.map_cons, ih, h.1]
theorem OKV.val {kvs : List (OKey × V)} {vs : List (Leaf × Value)} (h : OKV kvs vs) (k : OKey) : RelO (getO k kvs) (valueAt vs (lfK k)) := by
  unfold OKV at h
  induction h with
  | nil => exact True.intro
  | @cons p q ps qs h t ih =>
    unfold getO valueAt
    by_cases e : p.1 = k
    · rw [if_pos e, List.find?_cons_of_pos (by simp [h.1, e])]
      exact h.2
    · rw [if_neg e, List.find?_cons_of_neg (by simp [h.1]; exact fun z => e (lfK_inj z))]
      exact ih
theorem OKV.put {kvs : List (OKey × V)} {vs : List (Leaf × Value)} (h : OKV kvs vs) (hn : (vs.map (·.1)).Nodup) (k : OKey) {v : V} {r : Value} (rv : RelV v r) : OKV (putO k v kvs) (stored vs (lfK k) r) := by
  unfold OKV at h ⊢
  induction h with
  | nil => exact .cons ⟨rfl, rv⟩ .nil
  | @cons p q ps qs h t ih =>
    rw [List.map_cons] at hn
    have hn' := List.nodup_cons.mp hn
    unfold putO
    by_cases e : p.1 = k
    · rw [if_pos e]
      have eq1 : q.1 = lfK k := by rw [h.1, e]
      unfold stored
      rw [if_pos (by rw [List.any_cons]; simp [eq1]), List.map_cons, if_pos eq1, map_store_of_not_mem qs _ r (by rw [← eq1]; exact hn'.1)]
      exact .cons ⟨h.1, rv⟩ t
    · rw [if_neg e]
      have ne1 : ¬ q.1 = lfK k := fun z => e (lfK_inj (h.1.symm.trans z))
      have es : stored (q :: qs) (lfK k) r = q :: stored qs (lfK k) r := by
        unfold stored
        rw [List.any_cons, decide_eq_false ne1, Bool.false_or]
        split
        · rw [List.map_cons, if_neg ne1]
        · rfl
      rw [es]
      exact .cons h (ih hn'.2)
section
variable {X : Cx} {pins : List (Addr × Obj)} {σ : St} {H : Hp} {s : Shared} {a : Addr} {kvs : List (OKey × V)}
end
section
variable {X : Cx} {o i e value : Expr} {pos pos' tpos : Pos} {td ty tv : TE}
end
end L2

namespace Gb
open PySem PySem.Spec L2

/-! data that stands for ever; what a slot holds -/
inductive D where
  | non | bl (b : Bool) | int (i : Int) | str (s : Str) | ty (n : String)
  | lst (xs : List D) | tup (xs : List D) | scr (ns : List Int)
  | dic (ks : List Key) (vs : List D)
  | obj (c : Nat) (ns : List Str) (vs : List D)
  | exn (a dd : Nat) (ns : List Str) (vs : List D)
  | exv (c : Nat) (ns : List Str) (vs : List D)
inductive T where
  | dead
  | imm (b : Bool) (d : D)
  | lstI (ds : List D)
  | lst (ts : List T)
  | dicI (ks : List Key) (ds : List D)
  | dic (ks : List (Option Int)) (ds : List D)
  | obj (c : Nat) (ns : List Str) (ts : List T)
  | bag (as : List Nat) (ts : List T)
  | tup (ts : List T)
  | dct (ks : List Key) (ts : List T)
  | dkt (ks : List (List Key))
/-- addresses: of the classes; of the tables of code objects, with the names of the objects within -/
structure Cad where
  a : Nat → Addr
  T : List (Addr × Str)
instance : CoeFun Cad (fun _ => Nat → Addr) := ⟨Cad.a⟩
structure Ct where
  K : PySem.W.Frag
  ca : Cad
structure Wd where
  I : Addr → Prop
  B : Addr → Prop
  R : Addr → Prop
def Wd.im (w : Wd) (b : Bool) : Addr → Prop := fun a => w.I a ∨ (b = true ∧ w.B a)

def KL (K : PySem.W.Frag) (a : Addr) (xs : List V) : Prop :=
  ∃ (o : Obj) (its : Array Value) (n : Nat), K.lookup a = some o ∧ o.cls = .type "list" ∧ o.dict = none ∧ o.data = .seq its n ∧ its.size ≤ sizeLine ∧ Vals xs its.toList
def KT (K : PySem.W.Frag) (a : Addr) (xs : List V) : Prop :=
  ∃ (o : Obj) (its : Array Value) (n : Nat), K.lookup a = some o ∧ o.cls = .type "tuple" ∧ o.data = .seq its n ∧ its.size ≤ sizeLine ∧ Vals xs its.toList
def LstAt (C : Ct) (H : Hp) (A : Addr → Prop) (a : Addr) (vs : List V) : Prop := (A a ∧ Rd H a (.lst vs)) ∨ KL C.K a vs
def TupAt (C : Ct) (H : Hp) (A : Addr → Prop) (a : Addr) (vs : List V) : Prop := (A a ∧ Rd H a (.tup vs)) ∨ KT C.K a vs
section
variable {C : Ct} {H H' : Hp} {A A' : Addr → Prop} {a : Addr} {vs : List V}
theorem LstAt.sq (h : LstAt C H A a vs) : SqL C.K H a vs := h.elim (fun z => .inl z.2) .inr
theorem TupAt.sq (h : TupAt C H A a vs) : SqT C.K H a vs := h.elim (fun z => .inl z.2) .inr
theorem Rd.same {u : HO} (h : Rd H a u) (e : H' a = H a) : Rd H' a u := by
  unfold Rd; rw [e]; exact h
theorem LstAt.mono (h : LstAt C H A a vs) (m : ∀ a, A a → A' a ∧ H' a = H a) : LstAt C H' A' a vs :=
  h.elim (fun z => .inl ⟨(m a z.1).1, Rd.same z.2 (m a z.1).2⟩) .inr
theorem TupAt.mono (h : TupAt C H A a vs) (m : ∀ a, A a → A' a ∧ H' a = H a) : TupAt C H' A' a vs :=
  h.elim (fun z => .inl ⟨(m a z.1).1, Rd.same z.2 (m a z.1).2⟩) .inr
end

/-- an exception object of the class cls, its dict d, at a -/
def IsXV (o : HO) (cls : Value) (d : Option Addr) (a : Addr) : Prop := ∀ (P : Program) (w : World) (H : Hp) (h : Heap), ObjOk P w H h a o → ∃ (oe : Obj) (vs : Array Value), h.get? a = some oe ∧ oe.cls = cls ∧ oe.dict = d ∧ oe.data = .fields vs
mutual
def RD (C : Ct) (H : Hp) (A : Addr → Prop) : D → V → Prop
  | .non, v => v = .non
  | .bl b, v => v = .bl b
  | .int i, v => v = .int i
  | .str s, v => v = .str s
  | .ty n, v => v = .ty n
  | .lst xs, v => ∃ a vs, v = .ref a ∧ (A a ∧ H a = some (.lst vs)) ∧ RDs C H A xs vs
  | .tup xs, v => ∃ a vs, v = .ref a ∧ (A a ∧ H a = some (.tup vs)) ∧ RDs C H A xs vs
  | .scr ns, v => ∃ a, v = .ref a ∧ LstAt C H A a (ns.map V.int)
  | .dic ks xs, v => ∃ a kvs, v = .ref a ∧ A a ∧ Rd H a (.dK kvs) ∧ kvs.map (·.1) = ks ∧ RDs C H A xs (kvs.map (·.2))
  | .obj c ns xs, v => ∃ a dx fs, v = .ref a ∧ A a ∧ A dx ∧ H a = some (.ins (C.ca c) dx fs) ∧ H dx = some (.own a) ∧ fs.map (·.1) = ns ∧ RDs C H A xs (fs.map (·.2))
  | .exn a dd ns xs, v => v = .ref a ∧ (ns = [] ∨ ∃ fs, A dd ∧ H dd = some (.xd fs) ∧ fs.map (·.1) = ns ∧ RDs C H A xs (fs.map (·.2)))
  | .exv c ns xs, v => ∃ a o d, v = .ref a ∧ A a ∧ H a = some o ∧ IsXV o (.ref (C.ca c)) d a ∧ ((ns = [] ∧ d = none) ∨ ∃ dd fs, d = some dd ∧ A dd ∧ H dd = some (.xd fs) ∧ fs.map (·.1) = ns ∧ RDs C H A xs (fs.map (·.2)))
def RDs (C : Ct) (H : Hp) (A : Addr → Prop) : List D → List V → Prop
  | [], vs => vs = []
  | d :: ds, vs => ∃ v r, vs = v :: r ∧ RD C H A d v ∧ RDs C H A ds r
end
mutual
theorem RD_mono {C : Ct} {H H' : Hp} {A A' : Addr → Prop} (m : ∀ a, A a → A' a ∧ H' a = H a) : (d : D) → (v : V) → RD C H A d v → RD C H' A' d v
  | .non, _, h => h
  | .bl _, _, h => h
  | .int _, _, h => h
  | .str _, _, h => h
  | .ty _, _, h => h
  | .lst xs, v, h => by
    obtain ⟨a, vs, e, ⟨l1, l2⟩, r⟩ := h
    exact ⟨a, vs, e, ⟨(m a l1).1, (m a l1).2.trans l2⟩, RDs_mono m xs vs r⟩
  | .tup xs, v, h => by
    obtain ⟨a, vs, e, ⟨l1, l2⟩, r⟩ := h
    exact ⟨a, vs, e, ⟨(m a l1).1, (m a l1).2.trans l2⟩, RDs_mono m xs vs r⟩
  | .scr ns, v, h => by
    obtain ⟨a, e, l⟩ := h
    exact ⟨a, e, l.mono m⟩
  | .dic ks xs, v, h => by
    obtain ⟨a, kvs, e, l, g, k, r⟩ := h
    exact ⟨a, kvs, e, (m a l).1, Rd.same g (m a l).2, k, RDs_mono m xs _ r⟩
  | .obj c ns xs, v, h => by
    obtain ⟨a, dx, fs, e, l, l2, g, g2, k, r⟩ := h
    exact ⟨a, dx, fs, e, (m a l).1, (m dx l2).1, (m a l).2.trans g, (m dx l2).2.trans g2, k, RDs_mono m xs _ r⟩
  | .exn a dd ns xs, v, h => by
    obtain ⟨e, h⟩ := h
    refine ⟨e, ?_⟩
    rcases h with h | ⟨fs, l, g, k, r⟩
    · exact .inl h
    · exact .inr ⟨fs, (m dd l).1, (m dd l).2.trans g, k, RDs_mono m xs _ r⟩
  | .exv c ns xs, v, h => by
    obtain ⟨a, o, d, e, l, g, q, h⟩ := h
    refine ⟨a, o, d, e, (m a l).1, (m a l).2.trans g, q, ?_⟩
    rcases h with h | ⟨dd, fs, ed, l, g, k, r⟩
    · exact .inl h
    · exact .inr ⟨dd, fs, ed, (m dd l).1, (m dd l).2.trans g, k, RDs_mono m xs _ r⟩
theorem RDs_mono {C : Ct} {H H' : Hp} {A A' : Addr → Prop} (m : ∀ a, A a → A' a ∧ H' a = H a) : (ds : List D) → (vs : List V) → RDs C H A ds vs → RDs C H' A' ds vs
  | [], _, h => h
  | d :: ds, vs, h => by
    obtain ⟨v, r, e, h1, h2⟩ := h
    exact ⟨v, r, e, RD_mono m d v h1, RDs_mono m ds r h2⟩
end
theorem RDs.length {C : Ct} {H : Hp} {A : Addr → Prop} : ∀ {ds : List D} {vs : List V}, RDs C H A ds vs → ds.length = vs.length
  | [], vs, h => by
    have e : vs = [] := h
    rw [e]; rfl
  | d :: ds, vs, h => by
    obtain ⟨v, r, rfl, _, h2⟩ := h
    simp [RDs.length h2]
theorem RDs.get {C : Ct} {H : Hp} {A : Addr → Prop} : ∀ {ds : List D} {vs : List V} {i : Nat} {d : D}, RDs C H A ds vs → ds[i]? = some d → ∃ v, vs[i]? = some v ∧ RD C H A d v
  | [], vs, i, d, h, e => by simp at e
  | d' :: ds, vs, 0, d, h, e => by
    obtain ⟨v, r, rfl, h1, h2⟩ := h
    simp at e; subst e
    exact ⟨v, by simp, h1⟩
  | d' :: ds, vs, i + 1, d, h, e => by
    obtain ⟨v, r, rfl, h1, h2⟩ := h
    simp at e
    obtain ⟨u, h3, h4⟩ := RDs.get (i := i) h2 e
    exact ⟨u, by simpa using h3, h4⟩
theorem RDs.append {C : Ct} {H : Hp} {A : Addr → Prop} : ∀ {ds es : List D} {vs us : List V}, RDs C H A ds vs → RDs C H A es us → RDs C H A (ds ++ es) (vs ++ us)
  | [], es, vs, us, h, g => by
    have e : vs = [] := h
    subst e; exact g
  | d :: ds, es, vs, us, h, g => by
    obtain ⟨v, r, rfl, h1, h2⟩ := h
    exact ⟨v, r ++ us, rfl, h1, RDs.append h2 g⟩
theorem RDs.split {C : Ct} {H : Hp} {A : Addr → Prop} : ∀ {ds es : List D} {vs : List V}, RDs C H A (ds ++ es) vs → ∃ v1 v2, vs = v1 ++ v2 ∧ RDs C H A ds v1 ∧ RDs C H A es v2
  | [], es, vs, h => ⟨[], vs, rfl, rfl, h⟩
  | d :: ds, es, vs, h => by
    obtain ⟨v, r, rfl, h1, h2⟩ := h
    obtain ⟨v1, v2, rfl, h3, h4⟩ := RDs.split h2
    exact ⟨v :: v1, v2, rfl, ⟨v, v1, rfl, h1, h3⟩, h4⟩
theorem RDs.take {C : Ct} {H : Hp} {A : Addr → Prop} : ∀ {ds : List D} {vs : List V} (n : Nat), RDs C H A ds vs → RDs C H A (ds.take n) (vs.take n)
  | ds, vs, 0, _ => by simp [RDs]
  | [], vs, n + 1, h => by
    have e : vs = [] := h
    subst e; simp [RDs]
  | d :: ds, vs, n + 1, h => by
    obtain ⟨v, r, rfl, h1, h2⟩ := h
    exact ⟨v, r.take n, by simp, h1, RDs.take n h2⟩
theorem RDs.drop {C : Ct} {H : Hp} {A : Addr → Prop} : ∀ {ds : List D} {vs : List V} (n : Nat), RDs C H A ds vs → RDs C H A (ds.drop n) (vs.drop n)
  | ds, vs, 0, h => by simpa using h
  | [], vs, n + 1, h => by
    have e : vs = [] := h
    subst e; simp [RDs]
  | d :: ds, vs, n + 1, h => by
    obtain ⟨v, r, rfl, h1, h2⟩ := h
    simpa using RDs.drop n h2
theorem RDs.set {C : Ct} {H : Hp} {A : Addr → Prop} {d : D} {v : V} (hd : RD C H A d v) : ∀ {ds : List D} {vs : List V} (i : Nat), RDs C H A ds vs → RDs C H A (ds.set i d) (vs.set i v)
  | [], vs, i, h => by
    have e : vs = [] := h
    subst e; simp [RDs]
  | d' :: ds, vs, 0, h => by
    obtain ⟨v', r, rfl, h1, h2⟩ := h
    exact ⟨v, r, by simp, hd, h2⟩
  | d' :: ds, vs, i + 1, h => by
    obtain ⟨v', r, rfl, h1, h2⟩ := h
    exact ⟨v', r.set i v, by simp, h1, RDs.set hd i h2⟩
theorem RDs.reverse {C : Ct} {H : Hp} {A : Addr → Prop} : ∀ {ds : List D} {vs : List V}, RDs C H A ds vs → RDs C H A ds.reverse vs.reverse
  | [], vs, h => by
    have e : vs = [] := h
    subst e; simp [RDs]
  | d :: ds, vs, h => by
    obtain ⟨v, r, rfl, h1, h2⟩ := h
    rw [List.reverse_cons, List.reverse_cons]
    exact RDs.append (RDs.reverse h2) ⟨v, [], rfl, h1, rfl⟩
theorem RDs.ints {C : Ct} {H : Hp} {A : Addr → Prop} : ∀ {ns : List Int} {vs : List V}, RDs C H A (ns.map D.int) vs → vs = ns.map V.int
  | [], vs, h => h
  | n :: ns, vs, h => by
    obtain ⟨v, r, rfl, h1, h2⟩ := h
    have e : v = .int n := h1
    rw [e, RDs.ints h2]; rfl
theorem RDs.of_ints {C : Ct} {H : Hp} {A : Addr → Prop} : ∀ (ns : List Int), RDs C H A (ns.map D.int) (ns.map V.int)
  | [] => rfl
  | n :: ns => ⟨.int n, ns.map V.int, rfl, rfl, RDs.of_ints ns⟩

/-! slots -/
mutual
def RT (C : Ct) (w : Wd) (H : Hp) : T → Option V → List Addr → Prop
  | .dead, _, fp => fp = []
  | .imm b d, v, fp => ∃ x, v = some x ∧ RD C H (w.im b) d x ∧ fp = []
  | .lstI ds, v, fp => ∃ a vs, v = some (.ref a) ∧ H a = some (.lst vs) ∧ RDs C H w.I ds vs ∧ fp = [a]
  | .lst ts, v, fp => ∃ a vs f, v = some (.ref a) ∧ H a = some (.lst vs) ∧ RTs C w H ts (vs.map some) f ∧ fp = a :: f
  | .dicI ks ds, v, fp => ∃ a kvs, v = some (.ref a) ∧ H a = some (.dK kvs) ∧ kvs.map (·.1) = ks ∧ RDs C H w.I ds (kvs.map (·.2)) ∧ fp = [a]
  | .dic ks ds, v, fp => ∃ a kvs, v = some (.ref a) ∧ H a = some (LDo a kvs) ∧ kvs.map (·.1) = ks ∧ RDs C H w.I ds (kvs.map (·.2)) ∧ fp = [a]
  | .obj c ns ts, v, fp => ∃ a dx fs f, v = some (.ref a) ∧ H a = some (.ins (C.ca c) dx fs) ∧ H dx = some (.own a) ∧ fs.map (·.1) = ns ∧ RTs C w H ts (fs.map fun p => some p.2) f ∧ fp = a :: dx :: f
  | .bag as ts, _, fp => RTs C w H ts (as.map fun a => some (.ref a)) fp
  | .tup ts, v, fp => ∃ a vs f, v = some (.ref a) ∧ H a = some (.tup vs) ∧ RTs C w H ts (vs.map some) f ∧ fp = a :: f
  | .dct ks ts, v, fp => ∃ a kvs f, v = some (.ref a) ∧ H a = some (.dK kvs) ∧ kvs.map (·.1) = ks ∧ RTs C w H ts (kvs.map fun q => some q.2) f ∧ fp = a :: f
  | .dkt ks, v, fp => ∃ a, v = some (.ref a) ∧ H a = some (.dT (ks.map fun k => (k, V.bl true))) ∧ fp = [a]
def RTs (C : Ct) (w : Wd) (H : Hp) : List T → List (Option V) → List Addr → Prop
  | [], vs, fp => vs = [] ∧ fp = []
  | t :: ts, vs, fp => ∃ v r f1 f2, vs = v :: r ∧ RT C w H t v f1 ∧ RTs C w H ts r f2 ∧ fp = f1 ++ f2
end
mutual
theorem RT_mono {C : Ct} {w w' : Wd} {H H' : Hp} (m : ∀ a, w.I a → w'.I a ∧ H' a = H a) (mb : ∀ a, w.B a → w'.B a ∧ H' a = H a) : (t : T) → (v : Option V) → (fp : List Addr) → (∀ a ∈ fp, H' a = H a) → RT C w H t v fp → RT C w' H' t v fp
  | .dead, _, _, _, h => h
  | .imm b d, v, fp, k, h => by
    obtain ⟨x, e, r, f⟩ := h
    refine ⟨x, e, RD_mono (fun a z => ?_) d x r, f⟩
    rcases z with z | ⟨z1, z2⟩
    · exact ⟨.inl (m a z).1, (m a z).2⟩
    · exact ⟨.inr ⟨z1, (mb a z2).1⟩, (mb a z2).2⟩
  | .lstI ds, v, fp, k, h => by
    obtain ⟨a, vs, e, g, r, rfl⟩ := h
    exact ⟨a, vs, e, (k a (by simp)).trans g, RDs_mono m ds vs r, rfl⟩
  | .lst ts, v, fp, k, h => by
    obtain ⟨a, vs, f, e, g, r, rfl⟩ := h
    exact ⟨a, vs, f, e, (k a (by simp)).trans g, RTs_mono m mb ts _ f (fun b hb => k b (List.mem_cons_of_mem _ hb)) r, rfl⟩
  | .dicI ks ds, v, fp, k, h => by
    obtain ⟨a, kvs, e, g, q, r, rfl⟩ := h
    exact ⟨a, kvs, e, (k a (by simp)).trans g, q, RDs_mono m ds _ r, rfl⟩
  | .dic ks ds, v, fp, k, h => by
    obtain ⟨a, kvs, e, g, q, r, rfl⟩ := h
    exact ⟨a, kvs, e, (k a (by simp)).trans g, q, RDs_mono m ds _ r, rfl⟩
  | .obj c ns ts, v, fp, k, h => by
    obtain ⟨a, dx, fs, f, e, g, g2, q, r, rfl⟩ := h
    exact ⟨a, dx, fs, f, e, (k a (by simp)).trans g, (k dx (by simp)).trans g2, q, RTs_mono m mb ts _ f (fun b hb => k b (List.mem_cons_of_mem _ (List.mem_cons_of_mem _ hb))) r, rfl⟩
  | .bag as ts, v, fp, k, h => RTs_mono m mb ts _ fp k h
  | .tup ts, v, fp, k, h => by
    obtain ⟨a, vs, f, e, g, r, rfl⟩ := h
    exact ⟨a, vs, f, e, (k a (by simp)).trans g, RTs_mono m mb ts _ f (fun b hb => k b (List.mem_cons_of_mem _ hb)) r, rfl⟩
  | .dkt ks, v, fp, k, h => by
    obtain ⟨a, e, g, rfl⟩ := h
    exact ⟨a, e, (k a (by simp)).trans g, rfl⟩
  | .dct ks ts, v, fp, k, h => by
    obtain ⟨a, kvs, f, e, g, q, r, rfl⟩ := h
    exact ⟨a, kvs, f, e, (k a (by simp)).trans g, q, RTs_mono m mb ts _ f (fun b hb => k b (List.mem_cons_of_mem _ hb)) r, rfl⟩
theorem RTs_mono {C : Ct} {w w' : Wd} {H H' : Hp} (m : ∀ a, w.I a → w'.I a ∧ H' a = H a) (mb : ∀ a, w.B a → w'.B a ∧ H' a = H a) : (ts : List T) → (vs : List (Option V)) → (fp : List Addr) → (∀ a ∈ fp, H' a = H a) → RTs C w H ts vs fp → RTs C w' H' ts vs fp
  | [], _, _, _, h => h
  | t :: ts, vs, fp, k, h => by
    obtain ⟨v, r, f1, f2, e, h1, h2, rfl⟩ := h
    exact ⟨v, r, f1, f2, e, RT_mono m mb t v f1 (fun a ha => k a (List.mem_append_left _ ha)) h1, RTs_mono m mb ts r f2 (fun a ha => k a (List.mem_append_right _ ha)) h2, rfl⟩
end
/-- no table of code objects -/
def noT : Option HO → Bool
  | none => false
  | some (.tbl _) => false
  | some _ => true
def HOn : Type := {o : HO // noT (some o) = true}
@[simp] theorem HOn.p (o : HOn) : noT (some o.1) = true := o.2
theorem noT_ne {u : Option HO} (h : noT u = true) (e : u = none) : False := by rw [e] at h; cases h
mutual
theorem RT_some {C : Ct} {w : Wd} {H : Hp} : (t : T) → (v : Option V) → (fp : List Addr) → RT C w H t v fp → ∀ a ∈ fp, ∃ o : HOn, H a = some o.1
  | .dead, _, fp, h, a, ha => by
    have e : fp = [] := h
    subst e; simp at ha
  | .imm b d, v, fp, h, a, ha => by
    obtain ⟨x, e, r, rfl⟩ := h
    simp at ha
  | .lstI ds, v, fp, h, a, ha => by
    obtain ⟨b, vs, e, g, r, rfl⟩ := h
    obtain rfl : a = b := by simpa using ha
    exact ⟨⟨_, rfl⟩, g⟩
  | .lst ts, v, fp, h, a, ha => by
    obtain ⟨b, vs, f, e, g, r, rfl⟩ := h
    rcases List.mem_cons.mp ha with rfl | ha
    · exact ⟨⟨_, rfl⟩, g⟩
    · exact RTs_some ts _ f r a ha
  | .dicI ks ds, v, fp, h, a, ha => by
    obtain ⟨b, kvs, e, g, q, r, rfl⟩ := h
    obtain rfl : a = b := by simpa using ha
    exact ⟨⟨_, rfl⟩, g⟩
  | .dic ks ds, v, fp, h, a, ha => by
    obtain ⟨b, kvs, e, g, q, r, rfl⟩ := h
    obtain rfl : a = b := by simpa using ha
    exact ⟨⟨_, rfl⟩, g⟩
  | .obj c ns ts, v, fp, h, a, ha => by
    obtain ⟨b, dx, fs, f, e, g, g2, q, r, rfl⟩ := h
    rcases List.mem_cons.mp ha with rfl | ha
    · exact ⟨⟨_, rfl⟩, g⟩
    · rcases List.mem_cons.mp ha with rfl | ha
      · exact ⟨⟨_, rfl⟩, g2⟩
      · exact RTs_some ts _ f r a ha
  | .bag as ts, v, fp, h, a, ha => RTs_some ts _ fp h a ha
  | .tup ts, v, fp, h, a, ha => by
    obtain ⟨b, vs, f, e, g, r, rfl⟩ := h
    rcases List.mem_cons.mp ha with rfl | ha
    · exact ⟨⟨_, rfl⟩, g⟩
    · exact RTs_some ts _ f r a ha
  | .dkt ks, v, fp, h, a, ha => by
    obtain ⟨b, e, g, rfl⟩ := h
    obtain rfl : a = b := by simpa using ha
    exact ⟨⟨_, rfl⟩, g⟩
  | .dct ks ts, v, fp, h, a, ha => by
    obtain ⟨b, kvs, f, e, g, q, r, rfl⟩ := h
    rcases List.mem_cons.mp ha with rfl | ha
    · exact ⟨⟨_, rfl⟩, g⟩
    · exact RTs_some ts _ f r a ha
theorem RTs_some {C : Ct} {w : Wd} {H : Hp} : (ts : List T) → (vs : List (Option V)) → (fp : List Addr) → RTs C w H ts vs fp → ∀ a ∈ fp, ∃ o : HOn, H a = some o.1
  | [], _, fp, h, a, ha => by
    have e : fp = [] := h.2
    subst e; simp at ha
  | t :: ts, vs, fp, h, a, ha => by
    obtain ⟨v, r, f1, f2, e, h1, h2, rfl⟩ := h
    rcases List.mem_append.mp ha with ha | ha
    · exact RT_some t v f1 h1 a ha
    · exact RTs_some ts r f2 h2 a ha
end
theorem RTs.length {C : Ct} {w : Wd} {H : Hp} : ∀ {ts : List T} {vs : List (Option V)} {fp : List Addr}, RTs C w H ts vs fp → ts.length = vs.length
  | [], vs, fp, h => by rw [h.1]; rfl
  | t :: ts, vs, fp, h => by
    obtain ⟨v, r, f1, f2, rfl, _, h2, _⟩ := h
    simp [RTs.length h2]
theorem RTs.append {C : Ct} {w : Wd} {H : Hp} : ∀ {ts us : List T} {vs ws : List (Option V)} {f g : List Addr}, RTs C w H ts vs f → RTs C w H us ws g → RTs C w H (ts ++ us) (vs ++ ws) (f ++ g)
  | [], us, vs, ws, f, g, h, h' => by
    obtain ⟨rfl, rfl⟩ := h
    exact h'
  | t :: ts, us, vs, ws, f, g, h, h' => by
    obtain ⟨v, r, f1, f2, rfl, h1, h2, rfl⟩ := h
    exact ⟨v, r ++ ws, f1, f2 ++ g, rfl, h1, RTs.append h2 h', by simp⟩
theorem RTs.split {C : Ct} {w : Wd} {H : Hp} : ∀ {ts us : List T} {vs : List (Option V)} {f : List Addr}, RTs C w H (ts ++ us) vs f → ∃ v1 v2 f1 f2, vs = v1 ++ v2 ∧ f = f1 ++ f2 ∧ RTs C w H ts v1 f1 ∧ RTs C w H us v2 f2
  | [], us, vs, f, h => ⟨[], vs, [], f, rfl, rfl, ⟨rfl, rfl⟩, h⟩
  | t :: ts, us, vs, f, h => by
    obtain ⟨v, r, f1, f2, rfl, h1, h2, rfl⟩ := h
    obtain ⟨v1, v2, g1, g2, rfl, rfl, h3, h4⟩ := RTs.split h2
    exact ⟨v :: v1, v2, f1 ++ g1, g2, rfl, by simp, ⟨v, v1, f1, g1, rfl, h1, h3, rfl⟩, h4⟩
/-- a slot looked at, and put otherwise -/
theorem RTs.at {C : Ct} {w : Wd} {H : Hp} : ∀ {ts : List T} {vs : List (Option V)} {f : List Addr} {i : Nat} {t : T}, RTs C w H ts vs f → ts[i]? = some t →
    ∃ v f1 fp f2, vs[i]? = some v ∧ RT C w H t v fp ∧ f = f1 ++ fp ++ f2 ∧ ∀ t' v' fp', RT C w H t' v' fp' → RTs C w H (ts.set i t') (vs.set i v') (f1 ++ fp' ++ f2)
  | [], vs, f, i, t, h, e => by simp at e
  | t0 :: ts, vs, f, 0, t, h, e => by
    obtain ⟨v, r, f1, f2, rfl, h1, h2, rfl⟩ := h
    simp at e; subst e
    exact ⟨v, [], f1, f2, by simp, h1, by simp, fun t' v' fp' h' => ⟨v', r, fp', f2, by simp, h', h2, by simp⟩⟩
  | t0 :: ts, vs, f, i + 1, t, h, e => by
    obtain ⟨v, r, g1, g2, rfl, h1, h2, rfl⟩ := h
    simp at e
    obtain ⟨u, f1, fp, f2, h3, h4, rfl, h5⟩ := RTs.at (i := i) h2 e
    refine ⟨u, g1 ++ f1, fp, f2, by simpa using h3, h4, by simp, fun t' v' fp' h' => ?_⟩
    exact ⟨v, r.set i v', g1, f1 ++ fp' ++ f2, by simp, h1, h5 t' v' fp' h', by simp⟩

/-! the state -/
structure After (w : Wd) (H : Hp) (w' : Wd) (H' : Hp) : Prop where
  I : ∀ a, w.I a → w'.I a
  B : w'.B = w.B
  R : w'.R = w.R
  new : ∀ a, w'.I a → w.I a ∨ (¬ w.B a ∧ ¬ w.R a)
  keep : ∀ a, (w.I a ∨ w.B a ∨ w.R a) → H' a = H a
theorem After.refl {w : Wd} {H : Hp} : After w H w H := ⟨fun _ h => h, rfl, rfl, fun _ h => .inl h, fun _ _ => rfl⟩
theorem After.trans {w w1 w2 : Wd} {H H1 H2 : Hp} (a : After w H w1 H1) (b : After w1 H1 w2 H2) : After w H w2 H2 where
  I := fun x h => b.I x (a.I x h)
  B := b.B.trans a.B
  R := b.R.trans a.R
  new := fun x h => by
    rcases b.new x h with h | ⟨h1, h2⟩
    · exact a.new x h
    · rw [a.B] at h1; rw [a.R] at h2; exact .inr ⟨h1, h2⟩
  keep := fun x h => by
    refine (b.keep x ?_).trans (a.keep x h)
    rcases h with h | h | h
    · exact .inl (a.I x h)
    · exact .inr (.inl (by rw [a.B]; exact h))
    · exact .inr (.inr (by rw [a.R]; exact h))
structure StF (C : Ct) (w : Wd) (H : Hp) (ρ : List T) (σ : St) (F : List Addr) : Prop where
  rt : RTs C w H ρ σ F
  nd : F.Nodup
  out : ∀ a ∈ F, ¬ w.I a ∧ ¬ w.B a ∧ ¬ w.R a
  tr : ∀ a, (w.I a ∨ w.B a ∨ w.R a) → noT (H a) = true
  tb : LamX.Tabs C.ca.T H
theorem tabs_new {T : List (Addr × Str)} {H : Hp} {p : Addr} {o : HO} (t : LamX.Tabs T H) (h : H p = none) : LamX.Tabs T (upd H p o) := t.ext fun b u e => by
  rw [upd_ne fun z => by rw [z, h] at e; cases e]
  exact e
theorem tabs_wr {T : List (Addr × Str)} {H : Hp} {p : Addr} {vs : List V} {o : HO} (t : LamX.Tabs T H) (h : H p = some (.lst vs)) : LamX.Tabs T (upd H p o) := fun q hq => by
  obtain ⟨ps, h1, h2, h3⟩ := t q hq
  refine ⟨ps, ?_, h2, fun pos cv hc => ?_⟩
  · rw [upd_ne fun z => by rw [z, h] at h1; cases h1]
    exact h1
  · obtain ⟨c, e1, e2⟩ := h3 pos cv hc
    refine ⟨c, e1, ?_⟩
    rw [upd_ne fun z => by rw [z, h] at e2; unfold LamX.CodeO at e2; cases e2]
    exact e2
theorem tabs_wrD {T : List (Addr × Str)} {H : Hp} {p : Addr} {vs : List (Key × V)} {o : HO} (t : LamX.Tabs T H) (h : H p = some (.dK vs)) : LamX.Tabs T (upd H p o) := fun q hq => by
  obtain ⟨ps, h1, h2, h3⟩ := t q hq
  refine ⟨ps, ?_, h2, fun pos cv hc => ?_⟩
  · rw [upd_ne fun z => by rw [z, h] at h1; cases h1]
    exact h1
  · obtain ⟨c, e1, e2⟩ := h3 pos cv hc
    refine ⟨c, e1, ?_⟩
    rw [upd_ne fun z => by rw [z, h] at e2; unfold LamX.CodeO at e2; cases e2]
    exact e2
def Stt (C : Ct) (w : Wd) (H : Hp) (ρ : List T) (σ : St) : Prop := ∃ F, StF C w H ρ σ F
section
variable {C : Ct} {w w' : Wd} {H H' : Hp} {ρ ρ' : List T} {σ σ' : St} {t : T} {v : Option V}
theorem Stt.len (h : Stt C w H ρ σ) : ρ.length = σ.length := by
  obtain ⟨F, h⟩ := h
  exact h.rt.length
/-- what stands in front is laid aside: nobody touches it meanwhile -/
theorem Stt.push (h : Stt C w H (t :: ρ) (v :: σ)) : ∃ wt : Wd, wt.I = w.I ∧ wt.B = w.B ∧ Stt C wt H ρ σ ∧
    ∀ (w' : Wd) (H' : Hp) (ρ' : List T) (σ' : St), After wt H w' H' → Stt C w' H' ρ' σ' → ∃ w'', w''.I = w'.I ∧ After w H w'' H' ∧ Stt C w'' H' (t :: ρ') (v :: σ') := by
  obtain ⟨F, ⟨v0, r, f1, f2, e, h1, h2, rfl⟩, nd, out, tr, tb⟩ := h
  injection e with e1 e2
  subst e1; subst e2
  have nd2 := List.nodup_append.mp nd
  refine ⟨⟨w.I, w.B, fun a => w.R a ∨ a ∈ f1⟩, rfl, rfl, ⟨f2, ?_, nd2.2.1, fun a ha => ?_, fun a ha => ?_, tb⟩, fun w' H' ρ' σ' A S => ?_⟩
  · exact RTs_mono (w := w) (w' := ⟨w.I, w.B, fun a => w.R a ∨ a ∈ f1⟩) (H := H) (fun a z => ⟨z, rfl⟩) (fun a z => ⟨z, rfl⟩) _ _ _ (fun _ _ => rfl) h2
  · have q := out a (List.mem_append_right _ ha)
    exact ⟨q.1, q.2.1, fun z => z.elim q.2.2 fun z => nd2.2.2 a z a ha rfl⟩
  · rcases ha with z | z | z | z
    · exact tr a (.inl z)
    · exact tr a (.inr (.inl z))
    · exact tr a (.inr (.inr z))
    · obtain ⟨o, ho⟩ := RT_some _ _ _ h1 a z
      rw [ho]; simp
  · obtain ⟨F', rt, nd', out', tr', tb'⟩ := S
    have hB : w'.B = w.B := A.B
    have hR : w'.R = fun a => w.R a ∨ a ∈ f1 := A.R
    refine ⟨⟨w'.I, w'.B, w.R⟩, rfl, ⟨A.I, hB, rfl, fun a z => ?_, fun a z => ?_⟩, f1 ++ F', ⟨v, σ', f1, F', rfl, ?_, ?_, rfl⟩, ?_, fun a ha => ?_, fun a z => ?_, tb'⟩
    · rcases A.new a z with z | ⟨z1, z2⟩
      · exact .inl z
      · exact .inr ⟨z1, fun q => z2 (.inl q)⟩
    · refine A.keep a ?_
      rcases z with z | z | z
      · exact .inl z
      · exact .inr (.inl z)
      · exact .inr (.inr (.inl z))
    · refine RT_mono (w := w) (w' := ⟨w'.I, w'.B, w.R⟩) (H := H) (fun a z => ⟨A.I a z, A.keep a (.inl z)⟩) (fun a z => ⟨by show w'.B a; rw [hB]; exact z, A.keep a (.inr (.inl z))⟩) _ _ _ (fun a z => A.keep a (.inr (.inr (.inr z)))) h1
    · exact RTs_mono (w := w') (w' := ⟨w'.I, w'.B, w.R⟩) (H := H') (fun a z => ⟨z, rfl⟩) (fun a z => ⟨z, rfl⟩) _ _ _ (fun _ _ => rfl) rt
    · refine List.nodup_append.mpr ⟨nd2.1, nd', fun a ha b hb e => ?_⟩
      subst e
      refine (out' a hb).2.2 ?_
      rw [hR]; exact .inr ha
    · rcases List.mem_append.mp ha with ha | ha
      · have q := out a (List.mem_append_left _ ha)
        refine ⟨fun z => ?_, by show ¬ w'.B a; rw [hB]; exact q.2.1, q.2.2⟩
        rcases A.new a z with z | ⟨_, z⟩
        · exact q.1 z
        · exact z (.inr ha)
      · have q := out' a ha
        refine ⟨q.1, q.2.1, fun z => q.2.2 ?_⟩
        rw [hR]; exact .inl z
    · refine tr' a ?_
      rcases z with z | z | z
      · exact .inl z
      · exact .inr (.inl z)
      · exact .inr (.inr (by rw [hR]; exact .inl z))
theorem Stt.drop (h : Stt C w H (t :: ρ) (v :: σ)) : Stt C w H ρ σ := by
  obtain ⟨F, ⟨v0, r, f1, f2, e, h1, h2, rfl⟩, nd, out, tr, tb⟩ := h
  injection e with e1 e2
  subst e1; subst e2
  exact ⟨f2, h2, (List.nodup_append.mp nd).2.1, fun a ha => out a (List.mem_append_right _ ha), tr, tb⟩
theorem Stt.cons_imm {b : Bool} {d : D} {x : V} (h : Stt C w H ρ σ) (r : RD C H (w.im b) d x) : Stt C w H (.imm b d :: ρ) (some x :: σ) := by
  obtain ⟨F, rt, nd, out, tr, tb⟩ := h
  exact ⟨F, ⟨some x, σ, [], F, rfl, ⟨x, rfl, r, rfl⟩, rt, rfl⟩, nd, out, tr, tb⟩
theorem Stt.head_imm {b : Bool} {d : D} (h : Stt C w H (.imm b d :: ρ) (v :: σ)) : ∃ x, v = some x ∧ RD C H (w.im b) d x := by
  obtain ⟨F, ⟨v0, r, f1, f2, e, ⟨x, e3, h1, _⟩, h2, rfl⟩, nd, out, tr, tb⟩ := h
  injection e with e1 e2
  subst e1; subst e2
  exact ⟨x, e3, h1⟩
end
end Gb

namespace Gb
open PySem PySem.Spec L2

/-! to let a thing be shared for ever -/
mutual
def T.frz : T → Option (Bool × D)
  | .dead => none
  | .imm b d => some (b, d)
  | .lstI ds => some (false, .lst ds)
  | .lst ts => match frzs ts with | some (b, ds) => some (b, .lst ds) | none => none
  | .dicI ks ds => some (false, .dic ks ds)
  | .dic _ _ => none
  | .dkt _ => none
  | .obj c ns ts => match frzs ts with | some (b, ds) => some (b, .obj c ns ds) | none => none
  | .bag _ _ => none
  | .tup ts => match frzs ts with | some (b, ds) => some (b, .tup ds) | none => none
  | .dct ks ts => match frzs ts with | some (b, ds) => some (b, .dic ks ds) | none => none
def frzs : List T → Option (Bool × List D)
  | [] => some (false, [])
  | t :: ts => match t.frz, frzs ts with
    | some (b, d), some (c, ds) => some (b || c, d :: ds)
    | _, _ => none
end
section
variable {C : Ct} {w w' : Wd} {H H' : Hp} {ρ ρ' : List T} {σ σ' : L2.St} {t : T} {v : Option V}
def frA (w : Wd) (fp : List Addr) (b : Bool) : Addr → Prop := fun a => (w.I a ∨ a ∈ fp) ∨ (b = true ∧ w.B a)
theorem frA_mono {w : Wd} {H : Hp} {f g : List Addr} {b c : Bool} (h : ∀ a ∈ f, a ∈ g) (hb : b = true → c = true) : ∀ a, frA w f b a → frA w g c a ∧ H a = H a := fun a z => by
  refine ⟨?_, rfl⟩
  rcases z with (z | z) | ⟨z1, z2⟩
  · exact .inl (.inl z)
  · exact .inl (.inr (h a z))
  · exact .inr ⟨hb z1, z2⟩
mutual
theorem RT_frz {C : Ct} {w : Wd} {H : Hp} : (t : T) → (v : Option V) → (fp : List Addr) → (b : Bool) → (d : D) → RT C w H t v fp → t.frz = some (b, d) → ∃ x, v = some x ∧ RD C H (frA w fp b) d x
  | .dead, v, fp, b, d, h, e => by simp [T.frz] at e
  | .imm c d', v, fp, b, d, h, e => by
    simp [T.frz] at e
    obtain ⟨rfl, rfl⟩ := e
    obtain ⟨x, rfl, r, rfl⟩ := h
    refine ⟨x, rfl, RD_mono (fun a z => ⟨?_, rfl⟩) _ _ r⟩
    rcases z with z | z
    · exact .inl (.inl z)
    · exact .inr z
  | .lstI ds, v, fp, b, d, h, e => by
    simp [T.frz] at e
    obtain ⟨rfl, rfl⟩ := e
    obtain ⟨a, vs, rfl, g, r, rfl⟩ := h
    refine ⟨_, rfl, a, vs, rfl, ⟨.inl (.inr (by simp)), g⟩, RDs_mono (fun a z => ⟨.inl (.inl z), rfl⟩) _ _ r⟩
  | .lst ts, v, fp, b, d, h, e => by
    obtain ⟨a, vs, f, rfl, g, r, rfl⟩ := h
    unfold T.frz at e
    cases q : frzs ts with
    | none => simp [q] at e
    | some p =>
      obtain ⟨b', ds⟩ := p
      simp [q] at e
      obtain ⟨rfl, rfl⟩ := e
      obtain ⟨xs, hx, r'⟩ := RTs_frz ts _ f _ _ r q
      have hv : vs = xs := by
        have := congrArg (fun l => l.filterMap id) hx
        simpa using this
      subst hv
      exact ⟨_, rfl, a, vs, rfl, ⟨.inl (.inr (by simp)), g⟩, RDs_mono (frA_mono (fun a z => List.mem_cons_of_mem _ z) id) _ _ r'⟩
  | .dicI ks ds, v, fp, b, d, h, e => by
    simp [T.frz] at e
    obtain ⟨rfl, rfl⟩ := e
    obtain ⟨a, kvs, rfl, g, q, r, rfl⟩ := h
    refine ⟨_, rfl, a, kvs, rfl, .inl (.inr (by simp)), .of g, q, RDs_mono (fun a z => ⟨.inl (.inl z), rfl⟩) _ _ r⟩
  | .dic ks ds, v, fp, b, d, h, e => by simp [T.frz] at e
  | .dkt ks, v, fp, b, d, h, e => by simp [T.frz] at e
  | .obj c ns ts, v, fp, b, d, h, e => by
    obtain ⟨a, dx, fs, f, rfl, g, g2, qk, r, rfl⟩ := h
    unfold T.frz at e
    cases q : frzs ts with
    | none => simp [q] at e
    | some p =>
      obtain ⟨b', ds⟩ := p
      simp [q] at e
      obtain ⟨rfl, rfl⟩ := e
      obtain ⟨xs, hx, r'⟩ := RTs_frz ts _ f _ _ r q
      have hv : fs.map (·.2) = xs := by
        have := congrArg (fun l => l.filterMap id) hx
        simpa [Function.comp_def] using this
      subst hv
      exact ⟨_, rfl, a, dx, fs, rfl, .inl (.inr (by simp)), .inl (.inr (by simp)), g, g2, qk, RDs_mono (frA_mono (fun a z => List.mem_cons_of_mem _ (List.mem_cons_of_mem _ z)) id) _ _ r'⟩
  | .tup ts, v, fp, b, d, h, e => by
    obtain ⟨a, vs, f, rfl, g, r, rfl⟩ := h
    unfold T.frz at e
    cases q : frzs ts with
    | none => simp [q] at e
    | some p =>
      obtain ⟨b', ds⟩ := p
      simp [q] at e
      obtain ⟨rfl, rfl⟩ := e
      obtain ⟨xs, hx, r'⟩ := RTs_frz ts _ f _ _ r q
      have hv : vs = xs := by
        have := congrArg (fun l => l.filterMap id) hx
        simpa using this
      subst hv
      exact ⟨_, rfl, a, vs, rfl, ⟨.inl (.inr (by simp)), g⟩, RDs_mono (frA_mono (fun a z => List.mem_cons_of_mem _ z) id) _ _ r'⟩
  | .dct ks ts, v, fp, b, d, h, e => by
    obtain ⟨a, kvs, f, rfl, g, qk, r, rfl⟩ := h
    unfold T.frz at e
    cases q : frzs ts with
    | none => simp [q] at e
    | some p =>
      obtain ⟨b', ds⟩ := p
      simp [q] at e
      obtain ⟨rfl, rfl⟩ := e
      obtain ⟨xs, hx, r'⟩ := RTs_frz ts _ f _ _ r q
      have hv : kvs.map (·.2) = xs := by
        have := congrArg (fun l => l.filterMap id) hx
        simpa [Function.comp_def] using this
      subst hv
      exact ⟨_, rfl, a, kvs, rfl, .inl (.inr (by simp)), .of g, qk, RDs_mono (frA_mono (fun a z => List.mem_cons_of_mem _ z) id) _ _ r'⟩
theorem RTs_frz {C : Ct} {w : Wd} {H : Hp} : (ts : List T) → (vs : List (Option V)) → (fp : List Addr) → (b : Bool) → (ds : List D) → RTs C w H ts vs fp → frzs ts = some (b, ds) → ∃ xs, vs = xs.map some ∧ RDs C H (frA w fp b) ds xs
  | [], vs, fp, b, ds, h, e => by
    simp [frzs] at e
    obtain ⟨rfl, rfl⟩ := e
    obtain ⟨rfl, rfl⟩ := h
    exact ⟨[], rfl, rfl⟩
  | t :: ts, vs, fp, b, ds, h, e => by
    obtain ⟨v, r, f1, f2, rfl, h1, h2, rfl⟩ := h
    unfold frzs at e
    cases q1 : t.frz with
    | none => simp [q1] at e
    | some p1 =>
      cases q2 : frzs ts with
      | none => simp [q1, q2] at e
      | some p2 =>
        obtain ⟨b1, d1⟩ := p1
        obtain ⟨b2, d2⟩ := p2
        simp [q1, q2] at e
        obtain ⟨rfl, rfl⟩ := e
        obtain ⟨x, rfl, hx⟩ := RT_frz t v f1 _ _ h1 q1
        obtain ⟨xs, rfl, hxs⟩ := RTs_frz ts r f2 _ _ h2 q2
        refine ⟨x :: xs, rfl, x, xs, rfl, RD_mono (frA_mono (fun a z => List.mem_append_left _ z) fun z => by simp [z]) _ _ hx, RDs_mono (frA_mono (fun a z => List.mem_append_right _ z) fun z => by simp [z]) _ _ hxs⟩
end
/-- the front thing is shared from now on -/
theorem Stt.freeze {b : Bool} {d : D} (h : Stt C w H (t :: ρ) (v :: σ)) (e : t.frz = some (b, d)) : ∃ w', After w H w' H ∧ Stt C w' H (.imm b d :: ρ) (v :: σ) := by
  obtain ⟨F, ⟨v0, r, f1, f2, e0, h1, h2, rfl⟩, nd, out, tr, tb⟩ := h
  injection e0 with e1 e2
  subst e1; subst e2
  have nd2 := List.nodup_append.mp nd
  obtain ⟨x, rfl, hx⟩ := RT_frz _ _ _ _ _ h1 e
  refine ⟨⟨fun a => w.I a ∨ a ∈ f1, w.B, w.R⟩, ⟨fun a z => .inl z, rfl, rfl, fun a z => ?_, fun _ _ => rfl⟩, f2, ⟨some x, σ, [], f2, rfl, ⟨x, rfl, hx, rfl⟩, ?_, rfl⟩, nd2.2.1, fun a ha => ?_, fun a z => ?_, tb⟩
  · rcases z with z | z
    · exact .inl z
    · exact .inr (out a (List.mem_append_left _ z)).2
  · exact RTs_mono (w := w) (w' := ⟨fun a => w.I a ∨ a ∈ f1, w.B, w.R⟩) (H := H) (fun a z => ⟨.inl z, rfl⟩) (fun a z => ⟨z, rfl⟩) _ _ _ (fun _ _ => rfl) h2
  · have q := out a (List.mem_append_right _ ha)
    exact ⟨fun z => z.elim q.1 fun z => nd2.2.2 a z a ha rfl, q.2⟩
  · rcases z with (z | z) | z | z
    · exact tr a (.inl z)
    · obtain ⟨o, ho⟩ := RT_some _ _ _ h1 a z
      rw [ho]; simp
    · exact tr a (.inr (.inl z))
    · exact tr a (.inr (.inr z))
theorem set_same {α : Type} : ∀ {l : List α} {i : Nat} {x : α}, l[i]? = some x → l.set i x = l
  | [], i, x, h => by simp at h
  | a :: l, 0, x, h => by simp at h; simp [h]
  | a :: l, i + 1, x, h => by simp at h; simp [set_same h]
/-- a slot's thing is shared from now on; it is told -/
theorem Stt.share {b : Bool} {d : D} {i : Nat} (h : Stt C w H ρ σ) (hi : ρ[i]? = some t) (e : t.frz = some (b, d)) :
    ∃ w' x, σ[i]? = some (some x) ∧ After w H w' H ∧ Stt C w' H (.imm b d :: ρ.set i (.imm b d)) (some x :: σ) := by
  obtain ⟨F, rt, nd, out, tr, tb⟩ := h
  obtain ⟨v, f1, fp, f2, hv, h1, rfl, put⟩ := rt.at hi
  obtain ⟨x, rfl, hx⟩ := RT_frz _ _ _ _ _ h1 e
  have nd2 := List.nodup_append.mp nd
  have nd3 := List.nodup_append.mp nd2.1
  refine ⟨⟨fun a => w.I a ∨ a ∈ fp, w.B, w.R⟩, x, hv, ⟨fun a z => .inl z, rfl, rfl, fun a z => ?_, fun _ _ => rfl⟩, f1 ++ f2, ⟨some x, σ, [], f1 ++ f2, rfl, ⟨x, rfl, hx, rfl⟩, ?_, rfl⟩, ?_, fun a ha => ?_, fun a z => ?_, tb⟩
  · rcases z with z | z
    · exact .inl z
    · exact .inr (out a (List.mem_append_left _ (List.mem_append_right _ z))).2
  · have rt' : RTs C ⟨fun a => w.I a ∨ a ∈ fp, w.B, w.R⟩ H ρ σ (f1 ++ fp ++ f2) := RTs_mono (w := w) (w' := ⟨fun a => w.I a ∨ a ∈ fp, w.B, w.R⟩) (H := H) (fun a z => ⟨.inl z, rfl⟩) (fun a z => ⟨z, rfl⟩) _ _ _ (fun _ _ => rfl) rt
    have q : RTs C w H (ρ.set i .dead) (σ.set i (some x)) (f1 ++ [] ++ f2) := put .dead (some x) [] rfl
    rw [set_same hv] at q
    have q' : RTs C ⟨fun a => w.I a ∨ a ∈ fp, w.B, w.R⟩ H (ρ.set i .dead) σ (f1 ++ [] ++ f2) := RTs_mono (w := w) (w' := ⟨fun a => w.I a ∨ a ∈ fp, w.B, w.R⟩) (H := H) (fun a z => ⟨.inl z, rfl⟩) (fun a z => ⟨z, rfl⟩) _ _ _ (fun _ _ => rfl) q
    have hi2 : (ρ.set i .dead)[i]? = some .dead := by
      rw [List.getElem?_set_self]
      exact (List.getElem?_eq_some_iff.mp hi).1
    obtain ⟨v2, g1, gp, g2, hv2, h2, eg, put2⟩ := q'.at hi2
    rw [hv] at hv2
    have ev : v2 = some x := (Option.some.inj hv2).symm
    subst ev
    have egp : gp = [] := h2
    subst egp
    have z := put2 (.imm b d) (some x) [] ⟨x, rfl, hx, rfl⟩
    rw [set_same hv, List.set_set] at z
    have eg' : g1 ++ [] ++ g2 = f1 ++ f2 := by rw [← eg]; simp
    rw [eg'] at z
    exact z
  · refine List.nodup_append.mpr ⟨nd3.1, nd2.2.1, fun a ha b hb => nd2.2.2 a (List.mem_append_left _ ha) b hb⟩
  · have hm : a ∈ f1 ++ fp ++ f2 := by
      rcases List.mem_append.mp ha with z | z
      · exact List.mem_append_left _ (List.mem_append_left _ z)
      · exact List.mem_append_right _ z
    have q := out a hm
    refine ⟨fun z => z.elim q.1 fun z => ?_, q.2⟩
    rcases List.mem_append.mp ha with y | y
    · exact nd3.2.2 a y a z rfl
    · exact nd2.2.2 a (List.mem_append_right _ z) a y rfl
  · rcases z with (z | z) | z | z
    · exact tr a (.inl z)
    · obtain ⟨o, ho⟩ := RT_some _ _ _ h1 a z
      rw [ho]; simp
    · exact tr a (.inr (.inl z))
    · exact tr a (.inr (.inr z))
/-- a slot's thing is taken out -/
theorem Stt.move {i : Nat} (h : Stt C w H ρ σ) (hi : ρ[i]? = some t) : ∃ v, σ[i]? = some v ∧ Stt C w H (t :: ρ.set i .dead) (v :: σ) := by
  obtain ⟨F, rt, nd, out, tr, tb⟩ := h
  obtain ⟨v, f1, fp, f2, hv, h1, rfl, put⟩ := rt.at hi
  have q := put .dead v [] rfl
  rw [set_same hv] at q
  refine ⟨v, hv, fp ++ (f1 ++ [] ++ f2), ⟨v, σ, fp, _, rfl, h1, q, rfl⟩, ?_, fun a ha => ?_, tr, tb⟩
  · have nd2 := List.nodup_append.mp nd
    have nd3 := List.nodup_append.mp nd2.1
    simp only [List.append_nil]
    refine List.nodup_append.mpr ⟨nd3.2.1, List.nodup_append.mpr ⟨nd3.1, nd2.2.1, fun a ha b hb => nd2.2.2 a (List.mem_append_left _ ha) b hb⟩, fun a ha b hb e => ?_⟩
    subst e
    rcases List.mem_append.mp hb with y | y
    · exact nd3.2.2 a y a ha rfl
    · exact nd2.2.2 a (List.mem_append_right _ ha) a y rfl
  · refine out a ?_
    simp only [List.append_nil, List.mem_append] at ha ⊢
    rcases ha with ha | ha | ha
    · exact .inl (.inr ha)
    · exact .inl (.inl ha)
    · exact .inr ha
/-- the front thing is put into a slot -/
theorem Stt.put {i : Nat} (h : Stt C w H (t :: ρ) (v :: σ)) (hi : i < ρ.length) : Stt C w H (ρ.set i t) (σ.set i v) := by
  obtain ⟨F, ⟨v0, r, g1, g2, e0, k1, k2, rfl⟩, nd, out, tr, tb⟩ := h
  injection e0 with e1 e2
  subst e1; subst e2
  obtain ⟨t0, ht0⟩ : ∃ t0, ρ[i]? = some t0 := ⟨ρ[i], List.getElem?_eq_getElem hi⟩
  obtain ⟨v', f1, fp, f2, hv, h1, rfl, put⟩ := k2.at ht0
  refine ⟨f1 ++ g1 ++ f2, put t v g1 k1, ?_, fun a ha => out a ?_, tr, tb⟩
  · have n1 := List.nodup_append.mp nd
    have n2 := List.nodup_append.mp n1.2.1
    have n3 := List.nodup_append.mp n2.1
    refine List.nodup_append.mpr ⟨List.nodup_append.mpr ⟨n3.1, n1.1, fun a ha b hb e => ?_⟩, n2.2.1, fun a ha b hb e => ?_⟩
    · subst e
      exact n1.2.2 a hb a (List.mem_append_left _ (List.mem_append_left _ ha)) rfl
    · subst e
      rcases List.mem_append.mp ha with y | y
      · exact n2.2.2 a (List.mem_append_left _ y) a hb rfl
      · exact n1.2.2 a y a (List.mem_append_right _ hb) rfl
  · simp only [List.mem_append] at ha ⊢
    rcases ha with (ha | ha) | ha
    · exact .inr (.inl (.inl ha))
    · exact .inl ha
    · exact .inr (.inr ha)
/-- a new object, shared at once -/
theorem Stt.newI {p : Addr} {o : HO} (h : Stt C w H ρ σ) (hp : H p = none) (ho : noT (some o) = true := by rfl) : After w H ⟨fun a => w.I a ∨ a = p, w.B, w.R⟩ (upd H p o) ∧ Stt C ⟨fun a => w.I a ∨ a = p, w.B, w.R⟩ (upd H p o) ρ σ := by
  obtain ⟨F, rt, nd, out, tr, tb⟩ := h
  have ne : ∀ a, (w.I a ∨ w.B a ∨ w.R a) → a ≠ p := fun a z e => by subst e; exact noT_ne (tr a z) hp
  refine ⟨⟨fun a z => .inl z, rfl, rfl, fun a z => ?_, fun a z => upd_ne (ne a z)⟩, F, ?_, nd, fun a ha => ?_, fun a z => ?_, tabs_new tb hp⟩
  · rcases z with z | rfl
    · exact .inl z
    · exact .inr ⟨fun z => noT_ne (tr a (.inr (.inl z))) hp, fun z => noT_ne (tr a (.inr (.inr z))) hp⟩
  · refine RTs_mono (w := w) (w' := ⟨fun a => w.I a ∨ a = p, w.B, w.R⟩) (H := H) (fun a z => ⟨.inl z, upd_ne (ne a (.inl z))⟩) (fun a z => ⟨z, upd_ne (ne a (.inr (.inl z)))⟩) _ _ _ (fun a ha => upd_ne fun e => ?_) rt
    obtain ⟨o', ho⟩ := RTs_some _ _ _ rt a ha
    rw [e, hp] at ho; cases ho
  · have q := out a ha
    refine ⟨fun z => z.elim q.1 fun e => ?_, q.2⟩
    obtain ⟨o', ho⟩ := RTs_some _ _ _ rt a ha
    rw [e, hp] at ho; cases ho
  · by_cases e : a = p
    · subst e; rw [upd_same]; exact ho
    · rw [upd_ne e]
      rcases z with (z | z) | z | z
      · exact tr a (.inl z)
      · exact absurd z e
      · exact tr a (.inr (.inl z))
      · exact tr a (.inr (.inr z))
/-- a new list of shared things, one's own -/
theorem Stt.newL {p : Addr} {ds : List D} {vs : List V} (h : Stt C w H ρ σ) (r : RDs C H w.I ds vs) (hp : H p = none) : After w H w (upd H p (.lst vs)) ∧ Stt C w (upd H p (.lst vs)) (.lstI ds :: ρ) (some (.ref p) :: σ) := by
  obtain ⟨F, rt, nd, out, tr, tb⟩ := h
  have ne : ∀ a, (w.I a ∨ w.B a ∨ w.R a) → a ≠ p := fun a z e => by subst e; exact noT_ne (tr a z) hp
  have nf : ∀ a ∈ F, a ≠ p := fun a ha e => by
    obtain ⟨o', ho⟩ := RTs_some _ _ _ rt a ha
    rw [e, hp] at ho; cases ho
  refine ⟨⟨fun a z => z, rfl, rfl, fun a z => .inl z, fun a z => upd_ne (ne a z)⟩, p :: F, ⟨_, σ, [p], F, rfl, ⟨p, vs, rfl, upd_same, ?_, rfl⟩, ?_, rfl⟩, ?_, fun a ha => ?_, fun a z => ?_, tabs_new tb hp⟩
  · exact RDs_mono (fun a z => ⟨z, upd_ne (ne a (.inl z))⟩) _ _ r
  · exact RTs_mono (w := w) (H := H) (fun a z => ⟨z, upd_ne (ne a (.inl z))⟩) (fun a z => ⟨z, upd_ne (ne a (.inr (.inl z)))⟩) _ _ _ (fun a ha => upd_ne (nf a ha)) rt
  · exact List.nodup_cons.mpr ⟨fun z => nf p z rfl, nd⟩
  · rcases List.mem_cons.mp ha with rfl | ha
    · exact ⟨fun z => ne a (.inl z) rfl, fun z => ne a (.inr (.inl z)) rfl, fun z => ne a (.inr (.inr z)) rfl⟩
    · exact out a ha
  · rw [upd_ne (ne a z)]; exact tr a z
end

/-! expressions -/
structure Ex where
  c : Nat
  ns : List Str
  vs : List D
inductive ER (α : Type) where
  | ok (a : α) (ρ : List T)
  | exc (e : Ex) (ρ : List T)
  | bad
@[simp] def ER.bind {α β : Type} (r : ER α) (f : α → List T → ER β) : ER β := match r with
  | .ok a ρ => f a ρ
  | .exc e ρ => .exc e ρ
  | .bad => .bad
abbrev DE := List T → ER T
abbrev DA := List T → ER (List T)
def ExAt (C : Ct) (I : Addr → Prop) (H : Hp) (e : Ex) (cls : Value) (dx : Option Addr) : Prop :=
  cls = .ref (C.ca e.c) ∧ ((e.ns = [] ∧ e.vs = [] ∧ dx = none) ∨ ∃ d fs, dx = some d ∧ e.ns ≠ [] ∧ I d ∧ H d = some (.xd fs) ∧ fs.map (·.1) = e.ns ∧ RDs C H I e.vs (fs.map (·.2)))
def kE (C : Ct) (W : WX) (w : Wd) (H : Hp) (σ : L2.St) (Q : VK) : ER T → Prop
  | .ok t ρ' => ∀ w' H' v, After w H w' H' → Stt C w' H' (t :: ρ') (some v :: σ) → Q v H'
  | .exc e ρ' => ∀ w' H' cls dx, After w H w' H' → Stt C w' H' ρ' σ → ExAt C w'.I H' e cls dx → W cls dx σ H'
  | .bad => False
def tE (C : Ct) (W : WX) (d : DE) : TE := fun σ H Q => ∃ w ρ, Stt C w H ρ σ ∧ kE C W w H σ Q (d ρ)
def kA (C : Ct) (W : WX) (w : Wd) (H : Hp) (σ : L2.St) (Q : List V → Hp → Prop) : ER (List T) → Prop
  | .ok ts ρ' => ∀ w' H' vs, vs.length = ts.length → After w H w' H' → Stt C w' H' (ts ++ ρ') (vs.map some ++ σ) → Q vs H'
  | .exc e ρ' => ∀ w' H' cls dx, After w H w' H' → Stt C w' H' ρ' σ → ExAt C w'.I H' e cls dx → W cls dx σ H'
  | .bad => False
def tA (C : Ct) (W : WX) (d : DA) : TA := fun σ H Q => ∃ w ρ, Stt C w H ρ σ ∧ kA C W w H σ Q (d ρ)
/-- the reading of an expression is its denotation -/
structure SE (X : Cx) (ca : Cad) (W : WX) (e : Expr) (d : DE) : Prop where
  pe : PE X e (tE ⟨X.K, ca⟩ W d)
structure SA (X : Cx) (ca : Cad) (W : WX) (es : List Expr) (d : DA) : Prop where
  pa : PA X es (tA ⟨X.K, ca⟩ W d)
theorem PE.imp {X : Cx} {e : Expr} {t t' : TE} (h : PE X e t) (i : ∀ σ H Q, t' σ H Q → t σ H Q) : PE X e t' := ⟨fun pins s σ H Q I q => h.run pins s σ H Q I (i σ H Q q)⟩
theorem PT.imp {X : Cx} {e : Expr} {t t' : TT} (h : PT X e t) (i : ∀ σ H Q, t' σ H Q → t σ H Q) : PT X e t' := ⟨fun pins s σ H Q I q => h.run pins s σ H Q I (i σ H Q q)⟩
theorem PA.imp {X : Cx} {es : List Expr} {t t' : TA} (h : PA X es t) (i : ∀ σ H Q, t' σ H Q → t σ H Q) : PA X es t' := ⟨fun pos pins s σ H Q I q => h.run pos pins s σ H Q I (i σ H Q q)⟩
theorem PS.imp {X : Cx} {st : Stmt} {t t' : TS} (h : PS X st t) (i : ∀ D σ H, t' D σ H → t D σ H) : PS X st t' := ⟨fun pins s σ H D I q => h.run pins s σ H D I (i D σ H q)⟩
theorem PSs.imp {X : Cx} {st : List Stmt} {t t' : TS} (h : PSs X st t) (i : ∀ D σ H, t' D σ H → t D σ H) : PSs X st t' := ⟨fun pins s σ H D I q => h.run pins s σ H D I (i D σ H q)⟩
theorem ExAt.I {C : Ct} {I I' : Addr → Prop} {H : Hp} {e : Ex} {cls : Value} {dx : Option Addr} (h : ExAt C I H e cls dx) (i : I' = I) : ExAt C I' H e cls dx := by rw [i]; exact h
section
variable {C : Ct} {W : WX} {w w' : Wd} {H H' : Hp} {σ : L2.St} {Q : VK}
theorem kE.after (A : After w H w' H') : {r : ER T} → kE C W w H σ Q r → kE C W w' H' σ Q r
  | .ok t ρ, k => fun w2 H2 v A2 S => k w2 H2 v (A.trans A2) S
  | .exc e ρ, k => fun w2 H2 cls dx A2 S x => k w2 H2 cls dx (A.trans A2) S x
  | .bad, k => k
theorem kA.after {Q : List V → Hp → Prop} (A : After w H w' H') : {r : ER (List T)} → kA C W w H σ Q r → kA C W w' H' σ Q r
  | .ok t ρ, k => fun w2 H2 v l A2 S => k w2 H2 v l (A.trans A2) S
  | .exc e ρ, k => fun w2 H2 cls dx A2 S x => k w2 H2 cls dx (A.trans A2) S x
  | .bad, k => k
@[simp] def d1 (f : T → DE) (da : DE) : DE := fun ρ => (da ρ).bind fun x ρ1 => f x ρ1
@[simp] def d2 (f : T → T → DE) (da db : DE) : DE := fun ρ => (da ρ).bind fun x ρ1 => (db ρ1).bind fun y ρ2 => f x y ρ2
theorem one {da : DE} {f : T → DE} {r : V → Hp → VK → Prop} (h : tE C W (d1 f da) σ H Q)
    (hr : ∀ w H x ρ v, Stt C w H (x :: ρ) (some v :: σ) → kE C W w H σ Q (f x ρ) → r v H Q) : tE C W da σ H fun v H1 => r v H1 Q := by
  obtain ⟨w, ρ, S, k⟩ := h
  refine ⟨w, ρ, S, ?_⟩
  unfold d1 at k
  cases ha : da ρ with
  | bad => rw [ha] at k; exact k
  | exc e ρ1 => rw [ha] at k; exact k
  | ok x ρ1 =>
    rw [ha] at k
    exact fun w1 H1 v A1 S1 => hr w1 H1 x ρ1 v S1 (kE.after A1 k)
/-- a further expression behind one that is laid aside -/
theorem aside {da : DE} {x : T} {v : V} {ρ : List T} {R : V → Hp → Prop} {g : T → List T → ER T} (S : Stt C w H (x :: ρ) (some v :: σ)) (k : kE C W w H σ Q ((da ρ).bind g))
    (hr : ∀ w' H' y ρ' u, Stt C w' H' (x :: y :: ρ') (some v :: some u :: σ) → kE C W w' H' σ Q (g y ρ') → R u H') : tE C W da σ H R := by
  obtain ⟨wt, eI, eB, S1, back⟩ := S.push
  refine ⟨wt, ρ, S1, ?_⟩
  cases ha : da ρ with
  | bad => rw [ha] at k; exact k
  | exc e ρ1 =>
    rw [ha] at k
    intro w2 H2 cls dx A2 S2 x2
    obtain ⟨w3, e3, A3, S3⟩ := back _ _ _ _ A2 S2
    exact k w3 H2 cls dx A3 S3.drop (x2.I e3)
  | ok y ρ1 =>
    rw [ha] at k
    intro w2 H2 u A2 S2
    obtain ⟨w3, e3, A3, S3⟩ := back _ _ _ _ A2 S2
    exact hr w3 H2 y ρ1 u S3 (kE.after A3 k)
theorem two {da db : DE} {f : T → T → DE} {r : R2} (h : tE C W (d2 f da db) σ H Q)
    (hr : ∀ w H x y ρ v u, Stt C w H (x :: y :: ρ) (some v :: some u :: σ) → kE C W w H σ Q (f x y ρ) → r v u H Q) : tOp r (tE C W da) (tE C W db) σ H Q :=
  one (r := fun v H1 Q => tE C W db σ H1 fun u H2 => r v u H2 Q) (f := fun x ρ1 => (db ρ1).bind fun y ρ2 => f x y ρ2) h fun w H x ρ v S k => aside (g := fun y ρ2 => f x y ρ2) (R := fun u H2 => r v u H2 Q) S k fun w' H' y ρ' u S' k' => hr w' H' x y ρ' v u S' k'
end
end Gb

namespace Gb
open PySem PySem.Spec L2

/-! arguments -/
def dNil : DA := fun ρ => .ok [] ρ
def dCons (da : DE) (dr : DA) : DA := fun ρ => (da ρ).bind fun x ρ1 => (dr ρ1).bind fun xs ρ2 => .ok (x :: xs) ρ2
section
variable {X : Cx} {ca : Cad} {W : WX}
theorem sa_nil : SA X ca W [] dNil := ⟨PA.imp pa_nil fun σ H Q h => by
  obtain ⟨w, ρ, S, k⟩ := h
  exact k w H [] rfl .refl S⟩
theorem asideA {C : Ct} {w : Wd} {H : Hp} {σ : L2.St} {Q : List V → Hp → Prop} {da : DA} {x : T} {v : V} {ρ : List T} {g : List T → List T → ER (List T)} {R : List V → Hp → Prop} (S : Stt C w H (x :: ρ) (some v :: σ)) (k : kA C W w H σ Q ((da ρ).bind g))
    (hr : ∀ w' H' ys ρ' us, us.length = ys.length → Stt C w' H' (x :: (ys ++ ρ')) (some v :: (us.map some ++ σ)) → kA C W w' H' σ Q (g ys ρ') → R us H') : tA C W da σ H R := by
  obtain ⟨wt, eI, eB, S1, back⟩ := S.push
  refine ⟨wt, ρ, S1, ?_⟩
  cases ha : da ρ with
  | bad => rw [ha] at k; exact k
  | exc e ρ1 =>
    rw [ha] at k
    intro w2 H2 cls dx A2 S2 x2
    obtain ⟨w3, e3, A3, S3⟩ := back _ _ _ _ A2 S2
    exact k w3 H2 cls dx A3 S3.drop (x2.I e3)
  | ok y ρ1 =>
    rw [ha] at k
    intro w2 H2 u l A2 S2
    obtain ⟨w3, e3, A3, S3⟩ := back _ _ _ _ A2 S2
    exact hr w3 H2 y ρ1 u l S3 (kA.after A3 k)
theorem sa_cons {e : Expr} {es : List Expr} {da : DE} {dr : DA} (ha : SE X ca W e da) (hr : SA X ca W es dr) (hs : starEach (e :: es) X.env = (false, eval e X.env) :: starEach es X.env := by rfl) : SA X ca W (e :: es) (dCons da dr) := ⟨PA.imp (pa_cons ha.pe hr.pa hs) fun σ H Q h => by
  obtain ⟨w, ρ, S, k⟩ := h
  refine ⟨w, ρ, S, ?_⟩
  unfold dCons at k
  cases ha : da ρ with
  | bad => rw [ha] at k; exact k
  | exc e ρ1 => rw [ha] at k; exact k
  | ok x ρ1 =>
    rw [ha] at k
    intro w1 H1 v A1 S1
    refine asideA (g := fun xs ρ2 => .ok (x :: xs) ρ2) S1 (kA.after A1 k) fun w' H' ys ρ' us l S' k' => ?_
    exact k' w' H' (v :: us) (by simp [l]) .refl S'⟩
end

/-! tests -/
abbrev DT := List T → ER Bool
def kT (C : Ct) (W : WX) (w : Wd) (H : Hp) (σ : L2.St) (Q : Bool → Hp → Prop) : ER Bool → Prop
  | .ok b ρ' => ∀ w' H', After w H w' H' → Stt C w' H' ρ' σ → Q b H'
  | .exc e ρ' => ∀ w' H' cls dx, After w H w' H' → Stt C w' H' ρ' σ → ExAt C w'.I H' e cls dx → W cls dx σ H'
  | .bad => False
def tT (C : Ct) (W : WX) (d : DT) : TT := fun σ H Q => ∃ w ρ, Stt C w H ρ σ ∧ kT C W w H σ Q (d ρ)
structure ST (X : Cx) (ca : Cad) (W : WX) (e : Expr) (d : DT) : Prop where
  pt : PT X e (tT ⟨X.K, ca⟩ W d)
structure SW (X : Cx) (ca : Cad) (W : WX) (e : Expr) (d : DT) : Prop where
  pw : PW X e (tT ⟨X.K, ca⟩ W d)
theorem kT.after {C : Ct} {W : WX} {w w' : Wd} {H H' : Hp} {σ : L2.St} {Q : Bool → Hp → Prop} (A : After w H w' H') : {r : ER Bool} → kT C W w H σ Q r → kT C W w' H' σ Q r
  | .ok t ρ, k => fun w2 H2 A2 S => k w2 H2 (A.trans A2) S
  | .exc e ρ, k => fun w2 H2 cls dx A2 S x => k w2 H2 cls dx (A.trans A2) S x
  | .bad, k => k
def asBool : T → List T → ER Bool
  | .imm _ (.bl b), ρ => .ok b ρ
  | _, _ => .bad
def dtVal (d : DE) : DT := fun ρ => (d ρ).bind asBool
def dtAnd (a b : DT) : DT := fun ρ => (a ρ).bind fun x ρ1 => if x then b ρ1 else .ok false ρ1
def dtOr (a b : DT) : DT := fun ρ => (a ρ).bind fun x ρ1 => if x then .ok true ρ1 else b ρ1
def dtNot (a : DT) : DT := fun ρ => (a ρ).bind fun x ρ1 => .ok (!x) ρ1
section
variable {C : Ct} {W : WX} {w : Wd} {H : Hp} {σ : L2.St} {X : Cx} {ca : Cad}
theorem val_of {d : DE} {Q : Bool → Hp → Prop} (h : tT C W (dtVal d) σ H Q) : tE C W d σ H fun x H1 => ∃ c, x = .bl c ∧ Q c H1 := by
  obtain ⟨w, ρ, S, k⟩ := h
  refine ⟨w, ρ, S, ?_⟩
  unfold dtVal at k
  cases ha : d ρ with
  | bad => rw [ha] at k; exact k
  | exc e ρ1 => rw [ha] at k; exact k
  | ok x ρ1 =>
    rw [ha] at k
    intro w1 H1 v A1 S1
    cases x with
    | imm b d =>
      cases d with
      | bl c =>
        obtain ⟨x, e, r⟩ := S1.head_imm
        cases e
        exact ⟨c, r, k w1 H1 A1 S1.drop⟩
      | _ => exact (show False from k).elim
    | _ => exact (show False from k).elim
theorem st_val {e : Expr} {d : DE} (h : SE X ca W e d) (he : ∀ whole, isTrue e X.env whole = (do let v ← whole; standAt e.pos; holding [v] (truthy v)) := by intro _; rfl) : ST X ca W e (dtVal d) := ⟨PT.imp (pt_val h.pe he) fun σ H Q q => val_of q⟩
theorem bindT {a : DT} {g : Bool → List T → ER Bool} {Q : Bool → Hp → Prop} (h : tT C W (fun ρ => (a ρ).bind g) σ H Q) {R : Bool → Hp → Prop} (hr : ∀ w H ρ b, Stt C w H ρ σ → kT C W w H σ Q (g b ρ) → R b H) : tT C W a σ H R := by
  obtain ⟨w, ρ, S, k⟩ := h
  refine ⟨w, ρ, S, ?_⟩
  cases ha : a ρ with
  | bad => simp only [ha] at k; exact k
  | exc e ρ1 => simp only [ha] at k; exact k
  | ok x ρ1 =>
    simp only [ha] at k
    exact fun w1 H1 A1 S1 => hr w1 H1 ρ1 x S1 (kT.after A1 k)
theorem sw_or1 {a : Expr} {pos : Pos} {da : DT} (h : ST X ca W a da) : SW X ca W (.BoolOp .Or [a] pos) da := ⟨pw_or1 h.pt⟩
theorem PW.imp {X : Cx} {e : Expr} {t t' : TT} (h : PW X e t) (i : ∀ σ H Q, t' σ H Q → t σ H Q) : PW X e t' := ⟨fun wh pins s σ H Q I q => h.run wh pins s σ H Q I (i σ H Q q)⟩
theorem sw_or {a b : Expr} {r : List Expr} {pos : Pos} {da db : DT} (ha : ST X ca W a da) (hb : SW X ca W (.BoolOp .Or (b :: r) pos) db) : SW X ca W (.BoolOp .Or (a :: b :: r) pos) (dtOr da db) := ⟨PW.imp (pw_or ha.pt hb.pw) fun σ H Q q => by
  refine bindT q fun w H ρ c S k => ?_
  cases c with
  | false => exact ⟨w, ρ, S, k⟩
  | true => exact k w H .refl S⟩
theorem SW.st {e : Expr} {d : DT} (h : SW X ca W e d) : ST X ca W e d := ⟨h.pw.pt⟩
theorem st_not {a : Expr} {pos : Pos} {da : DT} (ha : ST X ca W a da) : ST X ca W (.UnaryOp .Not a pos) (dtNot da) := ⟨PT.imp (pt_not ha.pt) fun σ H Q q => by
  refine bindT q fun w H ρ c S k => ?_
  exact k w H .refl S⟩
end

/-! statements -/
inductive SR where
  | next (ρ : List T) | ret (t : T) (ρ : List T) | brk (ρ : List T) | cont (ρ : List T) | exc (e : Ex) (ρ : List T) | bad
abbrev DS := List T → SR
def Same' (pn : List Nat) (σ σ' : L2.St) : Prop := ∀ i ∈ pn, σ'[i]? = σ[i]?
theorem Same'.refl {pn : List Nat} {σ : L2.St} : Same' pn σ σ := fun _ _ => rfl
theorem Same'.trans {pn : List Nat} {σ σ1 σ2 : L2.St} (a : Same' pn σ σ1) (b : Same' pn σ1 σ2) : Same' pn σ σ2 := fun i h => (b i h).trans (a i h)
def kS (C : Ct) (W : WX) (pn : List Nat) (w : Wd) (H : Hp) (σ : L2.St) (D : Ends) : SR → Prop
  | .next ρ' => ∀ w' H' σ', After w H w' H' → Stt C w' H' ρ' σ' → Same' pn σ σ' → D.nx σ' H'
  | .brk ρ' => ∀ w' H' σ', After w H w' H' → Stt C w' H' ρ' σ' → Same' pn σ σ' → D.bk σ' H'
  | .cont ρ' => ∀ w' H' σ', After w H w' H' → Stt C w' H' ρ' σ' → Same' pn σ σ' → D.ct σ' H'
  | .ret t ρ' => ∀ w' H' σ' v, After w H w' H' → Stt C w' H' (t :: ρ') (some v :: σ') → Same' pn σ σ' → D.rt v H'
  | .exc e ρ' => ∀ w' H' σ' cls dx, After w H w' H' → Stt C w' H' ρ' σ' → Same' pn σ σ' → ExAt C w'.I H' e cls dx → W cls dx σ' H'
  | .bad => False
def tS (C : Ct) (W : WX) (pn : List Nat) (d : DS) : TS := fun D σ H => ∃ w ρ, Stt C w H ρ σ ∧ kS C W pn w H σ D (d ρ)
structure SS (X : Cx) (ca : Cad) (W : WX) (pn : List Nat) (st : Stmt) (d : DS) : Prop where
  ps : PS X st (tS ⟨X.K, ca⟩ W pn d)
structure SB (X : Cx) (ca : Cad) (W : WX) (pn : List Nat) (sts : List Stmt) (d : DS) : Prop where
  pss : PSs X sts (tS ⟨X.K, ca⟩ W pn d)
section
variable {C : Ct} {W : WX} {pn : List Nat} {w w' : Wd} {H H' : Hp} {σ σ' : L2.St} {D : Ends} {X : Cx} {ca : Cad}
theorem kS.after (A : After w H w' H') (P : Same' pn σ σ') : {r : SR} → kS C W pn w H σ D r → kS C W pn w' H' σ' D r
  | .next ρ, k => fun w2 H2 σ2 A2 S P2 => k w2 H2 σ2 (A.trans A2) S (P.trans P2)
  | .brk ρ, k => fun w2 H2 σ2 A2 S P2 => k w2 H2 σ2 (A.trans A2) S (P.trans P2)
  | .cont ρ, k => fun w2 H2 σ2 A2 S P2 => k w2 H2 σ2 (A.trans A2) S (P.trans P2)
  | .ret t ρ, k => fun w2 H2 σ2 v A2 S P2 => k w2 H2 σ2 v (A.trans A2) S (P.trans P2)
  | .exc e ρ, k => fun w2 H2 σ2 cls dx A2 S P2 x => k w2 H2 σ2 cls dx (A.trans A2) S (P.trans P2) x
  | .bad, k => k
def dPass : DS := .next
def dSeq (a b : DS) : DS := fun ρ => match a ρ with
  | .next ρ' => b ρ'
  | .ret t ρ' => .ret t ρ'
  | .brk ρ' => .brk ρ'
  | .cont ρ' => .cont ρ'
  | .exc e ρ' => .exc e ρ'
  | .bad => .bad
theorem sb_nil : SB X ca W pn [] dPass := ⟨PSs.imp pss_nil fun D σ H h => by
  obtain ⟨w, ρ, S, k⟩ := h
  exact k w H σ .refl S .refl⟩
theorem sb_one {st : Stmt} {d : DS} (h : SS X ca W pn st d) : SB X ca W pn [st] d := ⟨pss_one h.ps⟩
theorem sb_cons {st : Stmt} {rest : List Stmt} {d1 d2 : DS} (h1 : SS X ca W pn st d1) (h2 : SB X ca W pn rest d2) : SB X ca W pn (st :: rest) (dSeq d1 d2) := ⟨PSs.imp (pss_cons h1.ps h2.pss) fun D σ H h => by
  obtain ⟨w, ρ, S, k⟩ := h
  refine ⟨w, ρ, S, ?_⟩
  unfold dSeq at k
  cases e : d1 ρ with
  | next ρ1 =>
    rw [e] at k
    exact fun w1 H1 σ1 A1 S1 P1 => ⟨w1, ρ1, S1, kS.after A1 P1 k⟩
  | ret t ρ1 => rw [e] at k; exact k
  | brk ρ1 => rw [e] at k; exact k
  | cont ρ1 => rw [e] at k; exact k
  | exc x ρ1 => rw [e] at k; exact k
  | bad => rw [e] at k; exact k⟩
def dBreak : DS := .brk
def dCont : DS := .cont
/-- behind an expression -/
def dEx (de : DE) (g : T → List T → SR) : DS := fun ρ => match de ρ with
  | .ok t ρ' => g t ρ'
  | .exc e ρ' => .exc e ρ'
  | .bad => .bad
theorem exS {de : DE} {g : T → List T → SR} {R : V → Hp → Prop} (h : tS C W pn (dEx de g) D σ H) (hr : ∀ w H t ρ v, Stt C w H (t :: ρ) (some v :: σ) → kS C W pn w H σ D (g t ρ) → R v H) : tE C W de σ H R := by
  obtain ⟨w, ρ, S, k⟩ := h
  refine ⟨w, ρ, S, ?_⟩
  unfold dEx at k
  cases e : de ρ with
  | bad => rw [e] at k; exact k
  | exc x ρ1 =>
    rw [e] at k
    exact fun w1 H1 cls dx A1 S1 x1 => k w1 H1 σ cls dx A1 S1 .refl x1
  | ok t ρ1 =>
    rw [e] at k
    exact fun w1 H1 v A1 S1 => hr w1 H1 t ρ1 v S1 (kS.after A1 .refl k)
def dRet (de : DE) : DS := dEx de .ret
theorem ss_ret {e : Expr} {de : DE} {pos : Pos} (h : SE X ca W e de) : SS X ca W pn (.Return (some e) pos) (dRet de) := ⟨PS.imp (ps_ret h.pe) fun D σ H q => exS q fun w H t ρ v S k => k w H σ v .refl S .refl⟩
def dRetN : DS := fun ρ => .ret (.imm false .non) ρ
def dDrop (de : DE) : DS := dEx de fun _ ρ => .next ρ
theorem ss_expr {e : Expr} {de : DE} {pos : Pos} (h : SE X ca W e de) (hs : swapsWith e none pos.line X.env = pure false := by rfl) : SS X ca W pn (.Expr e pos) (dDrop de) := ⟨PS.imp (ps_expr h.pe hs) fun D σ H q => exS q fun w H t ρ v S k => k w H σ .refl S.drop .refl⟩
/-- behind a test -/
def dIf (c : DT) (a b : DS) : DS := fun ρ => match c ρ with
  | .ok x ρ' => if x then a ρ' else b ρ'
  | .exc e ρ' => .exc e ρ'
  | .bad => .bad
theorem ss_if {c : Expr} {a b : List Stmt} {dc : DT} {da db : DS} {pos : Pos} (hc : ST X ca W c dc) (ha : SB X ca W pn a da) (hb : SB X ca W pn b db) : SS X ca W pn (.If c a b pos) (dIf dc da db) := ⟨PS.imp (ps_if hc.pt ha.pss hb.pss) fun D σ H h => by
  obtain ⟨w, ρ, S, k⟩ := h
  refine ⟨w, ρ, S, ?_⟩
  unfold dIf at k
  cases e : dc ρ with
  | bad => rw [e] at k; exact k
  | exc x ρ1 =>
    rw [e] at k
    exact fun w1 H1 cls dx A1 S1 x1 => k w1 H1 σ cls dx A1 S1 .refl x1
  | ok x ρ1 =>
    rw [e] at k
    intro w1 H1 A1 S1
    cases x with
    | true => exact ⟨w1, ρ1, S1, kS.after A1 .refl k⟩
    | false => exact ⟨w1, ρ1, S1, kS.after A1 .refl k⟩⟩
/-- name = e -/
def dSet (i : Nat) (de : DE) : DS := dEx de fun t ρ => .next (ρ.set i t)
theorem Same'.set {i : Nat} {x : Option V} (h : i ∉ pn) : Same' pn σ (σ.set i x) := fun j hj => by
  rw [List.getElem?_set_ne]
  rintro rfl
  exact h hj
theorem setS {i : Nat} {de : DE} (h : tS C W pn (dSet i de) D σ H) (hi : i < σ.length) (hp : i ∉ pn) : tAsg (tE C W de) (gName i) D σ H :=
  exS h fun w H t ρ v S k => by
    have hl : (t :: ρ).length = (some v :: σ).length := S.len
    exact k w H (σ.set i (some v)) .refl (S.put (by simp at hl; omega)) (Same'.set hp)
end
end Gb

namespace Gb
open PySem PySem.Spec L2

theorem PS.impL {X : Cx} {st : Stmt} {t t' : TS} (h : PS X st t) (i : ∀ D σ H, σ.length = X.N.length → t' D σ H → t D σ H) : PS X st t' := ⟨fun pins s σ H D I q => h.run pins s σ H D I (i D σ H I.len q)⟩
theorem PG.impL {X : Cx} {e : Expr} {t t' : TG} (h : PG X e t) (i : ∀ v σ H Q, σ.length = X.N.length → t' v σ H Q → t v σ H Q) : PG X e t' := ⟨fun pins s σ H v u Q I r q => h.run pins s σ H v u Q I r (i v σ H Q I.len q)⟩

/-! targets -/
abbrev DG := T → List T → Option (List T)
def Chg (ch : List Nat) (σ σ' : L2.St) : Prop := σ'.length = σ.length ∧ ∀ i, i ∉ ch → σ'[i]? = σ[i]?
def tG (C : Ct) (ch : List Nat) (dg : DG) : TG := fun v σ H Q => ∃ w ρ t ρ', Stt C w H (t :: ρ) (some v :: σ) ∧ dg t ρ = some ρ' ∧ ∀ w' H' σ', After w H w' H' → Stt C w' H' ρ' σ' → Chg ch σ σ' → Q σ' H'
structure SG (X : Cx) (ca : Cad) (ch : List Nat) (e : Expr) (dg : DG) : Prop where
  pg : PG X e (tG ⟨X.K, ca⟩ ch dg)
def dgName (i : Nat) : DG := fun t ρ => some (ρ.set i t)
section
variable {C : Ct} {W : WX} {pn ch : List Nat} {w w' : Wd} {H H' : Hp} {σ σ' : L2.St} {En : Ends} {X : Cx} {ca : Cad}
theorem Chg.same (h : Chg ch σ σ') (d : ∀ i ∈ pn, i ∉ ch) : Same' pn σ σ' := fun i hi => h.2 i (d i hi)
theorem Chg.set {i : Nat} {x : Option V} (h : i ∈ ch) : Chg ch σ (σ.set i x) := ⟨by simp, fun j hj => by
  rw [List.getElem?_set_ne]
  rintro rfl
  exact hj h⟩
theorem sg_name {i : Nat} {x : Str} {pos : Pos} (hN : X.N.Nodup) (hi : X.N[i]? = some x) (hx : Loc X.env.scope x) (hf : X.fn x = true ∨ X.env.scope.names.lookup x = some .local := by first | exact .inl rfl | exact .inr rfl | assumption) : SG X ca [i] (.Name x pos) (dgName i) :=
  ⟨PG.impL (pg_name hN hi hx hf) fun v σ H Q l h => by
    obtain ⟨w, ρ, t, ρ', S, e, k⟩ := h
    cases e
    have hl : (t :: ρ).length = (some v :: σ).length := S.len
    have hi' : i < X.N.length := (List.getElem?_eq_some_iff.mp hi).1
    exact k w H _ .refl (S.put (by simp at hl; omega)) (Chg.set (by simp))⟩
/-- several targets for the parts of a tuple -/
abbrev DGs := Bool → List D → List T → Option (List T)
def tGs (C : Ct) (ch : List Nat) (dg : DGs) : TGs := fun vs σ H Q => ∃ w ρ b ds ρ', Stt C w H ρ σ ∧ RDs C H (w.im b) ds vs ∧ dg b ds ρ = some ρ' ∧ ∀ w' H' σ', After w H w' H' → Stt C w' H' ρ' σ' → Chg ch σ σ' → Q σ' H'
structure SGs (X : Cx) (ca : Cad) (ch : List Nat) (es : List Expr) (dg : DGs) : Prop where
  pgs : PGs X es (tGs ⟨X.K, ca⟩ ch dg)
def dgNil : DGs := fun _ ds ρ => match ds with | [] => some ρ | _ :: _ => none
def dgCons (g : DG) (r : DGs) : DGs := fun b ds ρ => match ds with
  | [] => none
  | d :: ds => match g (.imm b d) ρ with
    | some ρ' => r b ds ρ'
    | none => none
theorem PGs.imp {X : Cx} {e : List Expr} {t t' : TGs} (h : PGs X e t) (i : ∀ v σ H Q, t' v σ H Q → t v σ H Q) : PGs X e t' := ⟨fun pins s σ H v u Q I r q => h.run pins s σ H v u Q I r (i v σ H Q q)⟩
theorem After.im {b : Bool} (A : After w H w' H') : ∀ a, w.im b a → w'.im b a ∧ H' a = H a := fun a z => by
  rcases z with z | ⟨z1, z2⟩
  · exact ⟨.inl (A.I a z), A.keep a (.inl z)⟩
  · exact ⟨.inr ⟨z1, by rw [A.B]; exact z2⟩, A.keep a (.inr (.inl z2))⟩
def dgTup (g : DGs) : DG := fun t ρ => match t with
  | .imm b (.tup ds) => g b ds ρ
  | _ => none
def dAsg (dg : DG) (de : DE) : DS := dEx de fun t ρ => match dg t ρ with | some ρ' => .next ρ' | none => .bad
theorem ss_set {i : Nat} {x : Str} {e : Expr} {de : DE} {pos pos' : Pos} (hN : X.N.Nodup) (hi : X.N[i]? = some x) (hx : Loc X.env.scope x) (he : SE X ca W e de) (hp : i ∉ pn := by decide) (hs : swapsWith e (some (.Name x pos')) pos.line X.env = pure false := by rfl)
    (hf : X.fn x = true ∨ X.env.scope.names.lookup x = some .local := by first | exact .inl rfl | exact .inr rfl | assumption) : SS X ca W pn (.Assign [.Name x pos'] e pos) (dSet i de) :=
  ⟨PS.impL (ps_set hN hi hx he.pe hs hf) fun D σ H l h => setS h (by rw [l]; exact (List.getElem?_eq_some_iff.mp hi).1) hp⟩
/-! what is walked -/
structure Walk (C : Ct) (w : Wd) (H : Hp) (J : It) (b : Bool) (ds : List D) : Prop where
  go : ∀ i w' H', i < ds.length → After w H w' H' → J.go i H'
  yld : ∀ i d w' H' ρ σ x H'', ds[i]? = some d → After w H w' H' → Stt C w' H' ρ σ → J.yld i H' x H'' → ∃ w'', After w' H' w'' H'' ∧ Stt C w'' H'' (.imm b d :: ρ) (some x :: σ)
  stop : ∀ w' H', After w H w' H' → J.stop ds.length H'
  line : ds.length ≤ sizeLine
abbrev DI := List T → ER (Bool × List D)
def kI (C : Ct) (W : WX) (w : Wd) (H : Hp) (σ : L2.St) (R : It → Hp → Prop) : ER (Bool × List D) → Prop
  | .ok p ρ' => ∀ w' H' J, After w H w' H' → Stt C w' H' ρ' σ → Walk C w' H' J p.1 p.2 → R J H'
  | .exc e ρ' => ∀ w' H' cls dx, After w H w' H' → Stt C w' H' ρ' σ → ExAt C w'.I H' e cls dx → W cls dx σ H'
  | .bad => False
theorem kI.after {R : It → Hp → Prop} (A : After w H w' H') : {r : ER (Bool × List D)} → kI C W w H σ R r → kI C W w' H' σ R r
  | .ok p ρ, k => fun w2 H2 J A2 S => k w2 H2 J (A.trans A2) S
  | .exc e ρ, k => fun w2 H2 cls dx A2 S x => k w2 H2 cls dx (A.trans A2) S x
  | .bad, k => k
def tI (C : Ct) (W : WX) (d : DI) : TI := fun σ H R => ∃ w ρ, Stt C w H ρ σ ∧ kI C W w H σ R (d ρ)
structure SI (X : Cx) (ca : Cad) (W : WX) (tg e : Expr) (d : DI) : Prop where
  pi : PI X tg e (tI ⟨X.K, ca⟩ W d)
theorem PI.imp {X : Cx} {tg e : Expr} {t t' : TI} (h : PI X tg e t) (i : ∀ σ H Q, t' σ H Q → t σ H Q) : PI X tg e t' := ⟨fun pins s σ H Q I q => h.run pins s σ H Q I (i σ H Q q)⟩
theorem LstAt.after {b : Bool} {a : Addr} {vs : List V} (h : LstAt C H (w.im b) a vs) (A : After w H w' H') : LstAt C H' (w'.im b) a vs := h.mono A.im
theorem TupAt.after {b : Bool} {a : Addr} {vs : List V} (h : TupAt C H (w.im b) a vs) (A : After w H w' H') : TupAt C H' (w'.im b) a vs := h.mono A.im
theorem walk_list {a : Addr} {vs : List V} {b : Bool} {ds : List D} (h : LstAt C H (w.im b) a vs) (r : RDs C H (w.im b) ds vs) (hl : ds.length ≤ sizeLine) : Walk C w H (Itl C.K a) b ds where
  go := fun i w' H' hi A => by
    obtain ⟨d, hd⟩ : ∃ d, ds[i]? = some d := ⟨ds[i], List.getElem?_eq_getElem hi⟩
    obtain ⟨v, hv, _⟩ := r.get hd
    exact ⟨vs, v, (h.after A).sq, hv⟩
  yld := fun i d w' H' ρ σ x H'' hd A S ⟨e, q⟩ => by
    subst e
    obtain ⟨v, hv, rv⟩ := r.get hd
    have e := q vs (h.after A).sq
    rw [hv] at e; cases e
    exact ⟨w', .refl, S.cons_imm (RD_mono A.im _ _ rv)⟩
  stop := fun w' H' A => ⟨vs, (h.after A).sq, by rw [r.length]; exact Nat.le_refl _⟩
  line := hl
theorem walk_tup {a : Addr} {vs : List V} {b : Bool} {ds : List D} (h : TupAt C H (w.im b) a vs) (r : RDs C H (w.im b) ds vs) (hl : ds.length ≤ sizeLine) : Walk C w H (Itt C.K a) b ds where
  go := fun i w' H' hi A => by
    obtain ⟨d, hd⟩ : ∃ d, ds[i]? = some d := ⟨ds[i], List.getElem?_eq_getElem hi⟩
    obtain ⟨v, hv, _⟩ := r.get hd
    exact ⟨vs, v, (h.after A).sq, hv⟩
  yld := fun i d w' H' ρ σ x H'' hd A S ⟨e, q⟩ => by
    subst e
    obtain ⟨v, hv, rv⟩ := r.get hd
    have e := q vs (h.after A).sq
    rw [hv] at e; cases e
    exact ⟨w', .refl, S.cons_imm (RD_mono A.im _ _ rv)⟩
  stop := fun w' H' A => ⟨vs, (h.after A).sq, by rw [r.length]; exact Nat.le_refl _⟩
  line := hl
def rangeD (lo : Int) (n : Nat) : List D := (List.range n).map fun (i : Nat) => D.int (lo + i)
theorem walk_range {lo : Int} {n : Nat} (hl : n ≤ sizeLine) : Walk C w H (Itr lo n) false (rangeD lo n) where
  go := fun i w' H' hi A => by simpa [rangeD, Itr] using hi
  yld := fun i d w' H' ρ σ x H'' hd A S ⟨e, q⟩ => by
    subst e; subst q
    have hd' : d = .int (lo + i) := by
      unfold rangeD at hd
      rw [List.getElem?_map] at hd
      by_cases hi : i < n
      · rw [List.getElem?_range hi] at hd
        simpa using hd.symm
      · rw [List.getElem?_eq_none (by simpa using hi)] at hd
        simp at hd
    subst hd'
    exact ⟨w', .refl, S.cons_imm rfl⟩
  stop := fun w' H' A => by simp [rangeD, Itr]
  line := by simpa [rangeD] using hl
def strD (x : Str) : List D := x.cps.toList.map fun c => D.str ⟨#[c]⟩
theorem walk_str {x : Str} (hl : x.length ≤ sizeLine) : Walk C w H (Its x) false (strD x) where
  go := fun i w' H' hi A => by simpa [strD, Its] using hi
  yld := fun i d w' H' ρ σ y H'' hd A S ⟨e, c, hc, q⟩ => by
    subst e; subst q
    have hd' : d = .str ⟨#[c]⟩ := by
      unfold strD at hd
      rw [List.getElem?_map, Array.getElem?_toList, hc] at hd
      simpa using hd.symm
    subst hd'
    exact ⟨w', .refl, S.cons_imm rfl⟩
  stop := fun w' H' A => by simp [strD, Its]
  line := by simpa [strD, Str.length] using hl
theorem Inv.lineL {X : Cx} {pins : List (Addr × Obj)} {σ : L2.St} {H : Hp} {s : Shared} {a : Addr} {vs : List V} (I : Inv X pins σ H s) (h : SqL X.K H a vs) : vs.length ≤ sizeLine := let ⟨_, _, _, l⟩ := I.list h; l
theorem Inv.lineT {X : Cx} {pins : List (Addr × Obj)} {σ : L2.St} {H : Hp} {s : Shared} {a : Addr} {vs : List V} (I : Inv X pins σ H s) (h : SqT X.K H a vs) : vs.length ≤ sizeLine := let ⟨_, _, _, l⟩ := I.tuple h; l
/-- a list, a tuple or a text is walked -/
def iAny (K : PySem.W.Frag) (tl : TE) : TI := fun σ H R => tl σ H fun x H1 => (∃ a xs, x = .ref a ∧ SqL K H1 a xs ∧ (xs.length ≤ sizeLine → R (Itl K a) H1)) ∨ (∃ a xs, x = .ref a ∧ SqT K H1 a xs ∧ (xs.length ≤ sizeLine → R (Itt K a) H1)) ∨ (∃ z, x = .str z ∧ R (Its z) H1)
theorem pi_any {tg l : Expr} {tl : TE} (hl : PE X l tl) : PI X tg l (iAny X.K tl) := by
  refine ⟨fun pins s σ H R I h => ?_⟩
  refine thn (hl.run pins s σ H _ I h) fun v s1 ⟨x, H1, I1, r1, q1⟩ => ?_
  rcases q1 with ⟨a, xs, e, hq, q⟩ | ⟨a, xs, e, hq, q⟩ | ⟨z, e, q⟩
  · subst e
    cases r1
    obtain ⟨its, rv, p, hz⟩ := I1.list hq
    refine wpAny_pyIter_list p.isList ?_
    refine ⟨s1.heap.objs.size, [s1.heap.objs.size], _, _, H1, rfl, I1.kept (t' := s1.toks) fun b o e => Heap.get?_push_of_some _ e, turn_list a _, ⟨_, Heap.get?_push_size _ rfl, rfl, rfl⟩, fun b hb => ?_, q hz⟩
    have e : b = s1.heap.objs.size := by simpa using hb
    subst e
    exact I1.fpOk (Nat.le_refl _) (I1.hok.fresh (Nat.le_refl _))
  · subst e
    cases r1
    obtain ⟨its, rv, p, hz⟩ := I1.tuple hq
    refine wpAny_pyIter_tuple (show s1.heap.IsTuple a its.toArray from p) ?_
    refine ⟨s1.heap.objs.size, [s1.heap.objs.size], _, _, H1, rfl, I1.kept (t' := s1.toks) fun b o e => Heap.get?_push_of_some _ e, turn_tuple a _, ⟨_, Heap.get?_push_size _ rfl, rfl, rfl⟩, fun b hb => ?_, q hz⟩
    have e : b = s1.heap.objs.size := by simpa using hb
    subst e
    exact I1.fpOk (Nat.le_refl _) (I1.hok.fresh (Nat.le_refl _))
  · subst e
    obtain ⟨t, rfl⟩ := r1
    cases ha : z.cps.all (· < 128)
    · exact wpAny_pyIter_wide ha (pi_one (tk := s1.toks) I1 _ (turn_str _ z t "str_iterator" (.inr rfl)) ⟨_, Heap.get?_push_size _ rfl, rfl, rfl⟩ q)
    · exact wpAny_pyIter_ascii ha (pi_one (tk := s1.toks) I1 _ (turn_str _ z t "str_ascii_iterator" (.inl rfl)) ⟨_, Heap.get?_push_size _ rfl, rfl, rfl⟩ q)
def itemsOf : T → List T → ER (Bool × List D)
  | .imm b (.lst ds), ρ => .ok (b, ds) ρ
  | .imm b (.scr ns), ρ => .ok (b, ns.map D.int) ρ
  | .imm b (.tup ds), ρ => .ok (b, ds) ρ
  | .imm _ (.str x), ρ => if x.length ≤ sizeLine then .ok (false, strD x) ρ else .bad
  | _, _ => .bad
def diVal (de : DE) : DI := fun ρ => (de ρ).bind itemsOf
theorem exI {de : DE} {g : T → List T → ER (Bool × List D)} {R : It → Hp → Prop} {R' : V → Hp → Prop} (h : tI C W (fun ρ => (de ρ).bind g) σ H R) (hr : ∀ w H t ρ v, Stt C w H (t :: ρ) (some v :: σ) → kI C W w H σ R (g t ρ) → R' v H) : tE C W de σ H R' := by
  obtain ⟨w, ρ, S, k⟩ := h
  refine ⟨w, ρ, S, ?_⟩
  cases e : de ρ with
  | bad => simp only [e] at k; exact k
  | exc x ρ1 => simp only [e] at k; exact k
  | ok t ρ1 =>
    simp only [e] at k
    exact fun w1 H1 v A1 S1 => hr w1 H1 t ρ1 v S1 (kI.after A1 k)
theorem si_val {tg e : Expr} {de : DE} (h : SE X ca W e de) : SI X ca W tg e (diVal de) := ⟨PI.imp (pi_any h.pe) fun σ H R q => exI q fun w H t ρ v S k => by
  cases t with
  | imm b d =>
    cases d with
    | lst ds =>
      obtain ⟨x, ex, a, vs, rfl, la, rd⟩ := S.head_imm
      cases ex
      exact .inl ⟨a, vs, rfl, .of la.2, fun hl => k w H _ .refl S.drop (walk_list (.inl ⟨la.1, .of la.2⟩) rd (by rw [rd.length]; exact hl))⟩
    | scr ns =>
      obtain ⟨x, ex, a, rfl, la⟩ := S.head_imm
      cases ex
      exact .inl ⟨a, _, rfl, la.sq, fun hl => k w H _ .refl S.drop (walk_list la (.of_ints ns) (by simpa using hl))⟩
    | tup ds =>
      obtain ⟨x, ex, a, vs, rfl, la, rd⟩ := S.head_imm
      cases ex
      exact .inr (.inl ⟨a, vs, rfl, .of la.2, fun hl => k w H _ .refl S.drop (walk_tup (.inl ⟨la.1, .of la.2⟩) rd (by rw [rd.length]; exact hl))⟩)
    | str x =>
      obtain ⟨y, ey, r⟩ := S.head_imm
      cases ey
      have r' : v = .str x := r
      simp only [itemsOf] at k
      split at k
      · rename_i hl
        exact .inr (.inr ⟨x, r', k w H _ .refl S.drop (walk_str hl)⟩)
      · exact (show False from k).elim
    | _ => exact (show False from k).elim
  | _ => exact (show False from k).elim⟩
theorem exIA {da : DA} {g : List T → List T → ER (Bool × List D)} {R : It → Hp → Prop} {R' : List V → Hp → Prop} (h : tI C W (fun ρ => (da ρ).bind g) σ H R) (hr : ∀ w H ts ρ vs, vs.length = ts.length → Stt C w H (ts ++ ρ) (vs.map some ++ σ) → kI C W w H σ R (g ts ρ) → R' vs H) : tA C W da σ H R' := by
  obtain ⟨w, ρ, S, k⟩ := h
  refine ⟨w, ρ, S, ?_⟩
  cases e : da ρ with
  | bad => simp only [e] at k; exact k
  | exc x ρ1 => simp only [e] at k; exact k
  | ok t ρ1 =>
    simp only [e] at k
    exact fun w1 H1 v l A1 S1 => hr w1 H1 t ρ1 v l S1 (kI.after A1 k)
def rangeItems1 : List T → List T → ER (Bool × List D)
  | [.imm _ (.int n)], ρ => if -16777216 < n ∧ n < 16777216 then .ok (false, rangeD 0 n.toNat) ρ else .bad
  | _, _ => .bad
def rangeItems2 : List T → List T → ER (Bool × List D)
  | [.imm _ (.int a), .imm _ (.int b)], ρ => if -4611686018427387904 ≤ a ∧ a < 4611686018427387904 ∧ -4611686018427387904 ≤ b ∧ b < 4611686018427387904 ∧ b - a ≤ 16777216 then .ok (false, rangeD a (b - a).toNat) ρ else .bad
  | _, _ => .bad
theorem vs1 {vs : List V} (l : vs.length = 1) : ∃ v, vs = [v] := by
  match vs, l with
  | [v], _ => exact ⟨v, rfl⟩
theorem vs2 {vs : List V} (l : vs.length = 2) : ∃ v u, vs = [v, u] := by
  match vs, l with
  | [v, u], _ => exact ⟨v, u, rfl⟩
theorem vs3 {vs : List V} (l : vs.length = 3) : ∃ v u x, vs = [v, u, x] := by
  match vs, l with
  | [v, u, x], _ => exact ⟨v, u, x, rfl⟩
def diRange1 (da : DA) : DI := fun ρ => (da ρ).bind rangeItems1
def diRange2 (da : DA) : DI := fun ρ => (da ρ).bind rangeItems2
theorem Stt.head_int {b : Bool} {n : Int} {ρ : List T} {v : V} (S : Stt C w H (.imm b (.int n) :: ρ) (some v :: σ)) : v = .int n := by
  obtain ⟨x, ex, r⟩ := S.head_imm
  cases ex
  exact r
theorem si_range1 {tg a : Expr} {da : DA} {p pos : Pos} (hm : X.mg "range" = none) (ha : SA X ca W [a] da) (hg : Gl X "range" := by rfl) (hs : starEach [a] X.env = [(false, eval a X.env)] := by rfl) : SI X ca W tg (.Call (.Name "range" p) [a] [] pos) (diRange1 da) :=
  ⟨PI.imp (pi_range1 hg hm ha.pa hs) fun σ H R q => exIA q fun w H ts ρ vs l S k => by
    unfold rangeItems1 at k
    split at k
    · rename_i b n
      split at k
      · obtain ⟨v, rfl⟩ := vs1 l
        have S' : Stt _ w H (.imm b (.int n) :: ρ) (some v :: σ) := S
        have e := S'.head_int
        subst e
        exact ⟨n, rfl, by omega, by omega, k w H _ .refl S'.drop (walk_range (by rw [sizeLine_eq]; omega))⟩
      · exact (show False from k).elim
    · exact (show False from k).elim⟩
/-! loops -/
def forL (dg : DG) (body : DS) (b : Bool) : List D → DS
  | [], ρ => .next ρ
  | d :: ds, ρ => match dg (.imm b d) ρ with
    | none => .bad
    | some ρ1 => match body ρ1 with
      | .next ρ2 => forL dg body b ds ρ2
      | .cont ρ2 => forL dg body b ds ρ2
      | .brk ρ2 => .next ρ2
      | .ret t ρ2 => .ret t ρ2
      | .exc e ρ2 => .exc e ρ2
      | .bad => .bad
def dFor (dg : DG) (di : DI) (body : DS) : DS := fun ρ => match di ρ with
  | .ok p ρ' => forL dg body p.1 p.2 ρ'
  | .exc e ρ' => .exc e ρ'
  | .bad => .bad
theorem ss_for {tg iter : Expr} {body : List Stmt} {dg : DG} {di : DI} {db : DS} {pos : Pos} (hp : PassesOwn (model X.prog X.w) X.A X.env X.xe) (hc : X.calm = true) (hi : SI X ca W tg iter di) (hg : SG X ca ch tg dg) (hb : SB X ca W pn body db)
    (hd : ∀ i ∈ pn, i ∉ ch := by decide) (hs : ∀ x, foldedSetIterable iter X.env x = pure x := by intro _; rfl) : SS X ca W pn (.For tg iter body [] pos) (dFor dg di db) := ⟨PS.imp (ps_for hp hc hi.pi hg.pg hb.pss hs) fun En σ H h => by
  obtain ⟨w, ρ, S, k⟩ := h
  refine ⟨w, ρ, S, ?_⟩
  unfold dFor at k
  cases e : di ρ with
  | bad => rw [e] at k; exact k
  | exc x ρ1 =>
    rw [e] at k
    exact fun w1 H1 cls dx A1 S1 x1 => k w1 H1 σ cls dx A1 S1 .refl x1
  | ok p ρ1 =>
    rw [e] at k
    obtain ⟨b, ds⟩ := p
    intro w1 H1 J A1 S1 wk
    have wk : Walk _ w1 H1 J b ds := wk
    refine ⟨fun i m σ' H' => m = ds.length - i ∧ i ≤ ds.length ∧ ∃ w' ρ', After w1 H1 w' H' ∧ Stt _ w' H' ρ' σ' ∧ kS _ W pn w' H' σ' En (forL dg db b (ds.drop i) ρ'), ⟨ds.length, by simp, Nat.zero_le _, w1, ρ1, .refl, S1, by simpa using kS.after A1 .refl k⟩, ?_⟩
    rintro i m σ2 H2 ⟨rfl, hi, w2, ρ2, A2, S2, k2⟩
    by_cases hl : i < ds.length
    · refine .inr ⟨wk.go i w2 H2 hl A2, fun σ' H' => ∃ w' ρ', After w1 H1 w' H' ∧ Stt _ w' H' ρ' σ' ∧ kS _ W pn w' H' σ' En (forL dg db b (ds.drop (i + 1)) ρ'), fun σ' H' z => ⟨ds.length - (i + 1), by omega, rfl, hl, z⟩, fun x H3 y => ?_⟩
      have hd' : ds[i]? = some ds[i] := List.getElem?_eq_getElem hl
      obtain ⟨w3, A3, S3⟩ := wk.yld i _ w2 H2 ρ2 σ2 x H3 hd' A2 S2 y
      rw [List.drop_eq_getElem_cons hl] at k2
      unfold forL at k2
      cases eg : dg (.imm b ds[i]) ρ2 with
      | none => rw [eg] at k2; exact (show False from k2).elim
      | some ρ3 =>
        simp only [eg] at k2
        refine ⟨w3, ρ2, _, ρ3, S3, eg, fun w4 H4 σ4 A4 S4 c4 => ?_⟩
        have k4 := kS.after (A3.trans A4) (c4.same hd) k2
        refine ⟨w4, ρ3, S4, ?_⟩
        have A14 := A2.trans (A3.trans A4)
        cases eb : db ρ3 with
        | bad => simp only [eb] at k4; exact k4
        | ret t ρ5 => simp only [eb] at k4; exact k4
        | exc x ρ5 => simp only [eb] at k4; exact k4
        | brk ρ5 => simp only [eb] at k4; exact k4
        | next ρ5 =>
          simp only [eb] at k4
          exact fun w5 H5 σ5 A5 S5 P5 => ⟨w5, ρ5, A14.trans A5, S5, kS.after A5 P5 k4⟩
        | cont ρ5 =>
          simp only [eb] at k4
          exact fun w5 H5 σ5 A5 S5 P5 => ⟨w5, ρ5, A14.trans A5, S5, kS.after A5 P5 k4⟩
    · have e : i = ds.length := by omega
      subst e
      refine .inl ⟨wk.stop w2 H2 A2, ?_⟩
      simp [forL] at k2
      exact k2 w2 H2 σ2 .refl S2 .refl⟩
end
end Gb

namespace Gb
open PySem PySem.Spec L2
section
variable {C : Ct} {W : WX} {pn ch : List Nat} {w w' : Wd} {H H' : Hp} {σ σ' : L2.St} {En : Ends} {X : Cx} {ca : Cad} {ρ : List T} {t u : T} {v x : Option V}
theorem RTs.alt {C : Ct} {w : Wd} {H : Hp} : ∀ {ts : List T} {vs vs' : List (Option V)} {f : List Addr}, RTs C w H ts vs f → vs'.length = vs.length → (∀ i : Nat, ts[i]? = some .dead ∨ vs'[i]? = vs[i]?) → RTs C w H ts vs' f
  | [], vs, vs', f, h, l, _ => by
    obtain ⟨rfl, rfl⟩ := h
    exact ⟨List.length_eq_zero_iff.mp l, rfl⟩
  | t :: ts, vs, vs', f, h, l, k => by
    obtain ⟨v, r, f1, f2, rfl, h1, h2, rfl⟩ := h
    match vs', l with
    | v' :: r', l =>
      have q := RTs.alt (vs' := r') h2 (by simpa using l) fun i => by simpa using k (i + 1)
      refine ⟨v', r', f1, f2, rfl, ?_, q, rfl⟩
      rcases k 0 with e | e
      · have e' : t = .dead := by simpa using e
        subst e'
        exact h1
      · have e' : v' = v := by simpa using e
        subst e'
        exact h1
theorem Stt.alt (h : Stt C w H ρ σ) (l : σ'.length = σ.length) (k : ∀ i : Nat, ρ[i]? = some .dead ∨ σ'[i]? = σ[i]?) : Stt C w H ρ σ' := by
  obtain ⟨F, rt, nd, out, tr, tb⟩ := h
  exact ⟨F, rt.alt l k, nd, out, tr, tb⟩
def killL : List Nat → List T → List T
  | [], ρ => ρ
  | i :: is, ρ => killL is (ρ.set i .dead)
theorem Stt.setDead {i : Nat} (h : Stt C w H ρ σ) : Stt C w H (ρ.set i .dead) σ := by
  by_cases hi : i < ρ.length
  · obtain ⟨v, hv, S⟩ := h.move (List.getElem?_eq_getElem hi)
    exact S.drop
  · rw [List.set_eq_of_length_le (by omega)]; exact h
theorem Stt.kill : ∀ {vs : List Nat} {ρ : List T}, Stt C w H ρ σ → Stt C w H (killL vs ρ) σ
  | [], _, h => h
  | i :: vs, ρ, h => by
    show Stt C w H (killL vs (ρ.set i .dead)) σ
    exact Stt.kill h.setDead
theorem killL_keep : ∀ {vs : List Nat} {ρ : List T} {i : Nat}, ρ[i]? = some .dead → (killL vs ρ)[i]? = some .dead
  | [], _, _, h => h
  | j :: vs, ρ, i, h => by
    show (killL vs (ρ.set j .dead))[i]? = _
    refine killL_keep (ρ := ρ.set j .dead) ?_
    by_cases e : j = i
    · subst e
      rw [List.getElem?_set_self (List.getElem?_eq_some_iff.mp h).1]
    · rw [List.getElem?_set_ne e]; exact h
theorem killL_at : ∀ {vs : List Nat} {ρ : List T} {i : Nat}, i ∈ vs → i < ρ.length → (killL vs ρ)[i]? = some .dead
  | [], _, _, h, _ => by simp at h
  | j :: vs, ρ, i, h, l => by
    show (killL vs (ρ.set j .dead))[i]? = _
    rcases List.mem_cons.mp h with e | h
    · subst e
      exact killL_keep (by rw [List.getElem?_set_self l])
    · exact killL_at h (by simpa using l)
theorem Stt.forget {vs : List Nat} (h : Stt C w H ρ σ) (c : Chg vs σ σ') : Stt C w H (killL vs ρ) σ' := by
  refine h.kill.alt c.1 fun i => ?_
  by_cases hi : i ∈ vs
  · by_cases hl : i < ρ.length
    · exact .inl (killL_at hi hl)
    · right
      have l := h.len
      rw [List.getElem?_eq_none (by have := c.1; omega), List.getElem?_eq_none (by omega)]
  · exact .inr (c.2 i hi)
theorem wipe_at : ∀ {vs : List Nat} {σ : L2.St} {i : Nat}, i ∉ vs → (wipe σ vs)[i]? = σ[i]?
  | [], _, _, _ => rfl
  | j :: vs, σ, i, h => by
    simp only [List.mem_cons, not_or] at h
    show ((wipe σ vs).set j none)[i]? = _
    rw [List.getElem?_set_ne (fun e => h.1 e.symm), wipe_at h.2]
theorem wipe_in : ∀ {vs : List Nat} {σ : L2.St} {i : Nat}, i ∈ vs → i < σ.length → (wipe σ vs)[i]? = some none
  | [], _, _, h, _ => by simp at h
  | j :: vs, σ, i, h, l => by
    show ((wipe σ vs).set j none)[i]? = _
    by_cases e : j = i
    · subst e
      rw [List.getElem?_set_self (by rw [wipe_length]; exact l)]
    · rw [List.getElem?_set_ne e]
      rcases List.mem_cons.mp h with q | q
      · exact absurd q.symm e
      · exact wipe_in q l
theorem chg_wipe {vs : List Nat} : Chg vs σ (wipe σ vs) := ⟨wipe_length _ _, fun i h => wipe_at h⟩
theorem Chg.symm {vs : List Nat} (c : Chg vs σ σ') : Chg vs σ' σ := ⟨c.1.symm, fun i h => (c.2 i h).symm⟩
theorem wipe_chg {vs : List Nat} (c : Chg ch (wipe σ vs) σ') (h : ∀ i ∈ ch, i ∈ vs) : wipe σ' vs = wipe σ vs := by
  have l1 := c.1
  rw [wipe_length] at l1
  refine List.ext_getElem? fun i => ?_
  by_cases hi : i ∈ vs
  · by_cases hl : i < σ.length
    · rw [wipe_in hi (by omega), wipe_in hi hl]
    · rw [List.getElem?_eq_none (by rw [wipe_length]; omega), List.getElem?_eq_none (by rw [wipe_length]; omega)]
  · rw [wipe_at hi, c.2 i fun z => hi (h i z)]
theorem Stt.drop2 (h : Stt C w H (t :: u :: ρ) (v :: x :: σ)) : Stt C w H (t :: ρ) (v :: σ) := by
  obtain ⟨F, ⟨v0, r, f1, f2, e, h1, ⟨v1, r1, g1, g2, e', h3, h4, rfl⟩, rfl⟩, nd, out, tr, tb⟩ := h
  injection e with e1 e2
  subst e1; subst e2
  injection e' with e1 e2
  subst e1; subst e2
  refine ⟨f1 ++ g2, ⟨v, σ, f1, g2, rfl, h1, h4, rfl⟩, ?_, fun a ha => out a ?_, tr, tb⟩
  · exact nd.sublist (List.Sublist.append (List.Sublist.refl _) (List.sublist_append_right _ _))
  · rcases List.mem_append.mp ha with z | z
    · exact List.mem_append_left _ z
    · exact List.mem_append_right _ (List.mem_append_right _ z)
/-- the list in front is put otherwise -/
theorem Stt.wr {ds ds' : List D} {p : Addr} {vs' : List V} (h : Stt C w H (.lstI ds :: ρ) (some (.ref p) :: σ)) (r : RDs C H w.I ds' vs') : After w H w (upd H p (.lst vs')) ∧ Stt C w (upd H p (.lst vs')) (.lstI ds' :: ρ) (some (.ref p) :: σ) := by
  obtain ⟨F, ⟨v0, r0, f1, f2, e, ⟨a, vs, e3, g, rd, rfl⟩, h2, rfl⟩, nd, out, tr, tb⟩ := h
  injection e with e1 e2
  subst e1; subst e2
  cases e3
  have op := out p (by simp)
  have ne : ∀ b, (w.I b ∨ w.B b ∨ w.R b) → b ≠ p := fun b z e => by
    subst e
    rcases z with z | z | z
    · exact op.1 z
    · exact op.2.1 z
    · exact op.2.2 z
  have nf : ∀ b ∈ f2, b ≠ p := fun b hb e => by
    subst e
    exact (List.nodup_append.mp nd).2.2 b (by simp) b hb rfl
  refine ⟨⟨fun _ z => z, rfl, rfl, fun _ z => .inl z, fun b z => upd_ne (ne b z)⟩, [p] ++ f2, ⟨_, σ, [p], f2, rfl, ⟨p, vs', rfl, upd_same, ?_, rfl⟩, ?_, rfl⟩, nd, out, fun b z => ?_, tabs_wr tb g⟩
  · exact RDs_mono (fun b z => ⟨z, upd_ne (ne b (.inl z))⟩) _ _ r
  · exact RTs_mono (w := w) (H := H) (fun b z => ⟨z, upd_ne (ne b (.inl z))⟩) (fun b z => ⟨z, upd_ne (ne b (.inr (.inl z)))⟩) _ _ _ (fun b hb => upd_ne (nf b hb)) h2
  · rw [upd_ne (ne b z)]; exact tr b z
theorem Stt.head_lstI {ds : List D} (h : Stt C w H (.lstI ds :: ρ) (v :: σ)) : ∃ p vs, v = some (.ref p) ∧ H p = some (.lst vs) ∧ RDs C H w.I ds vs := by
  obtain ⟨F, ⟨v0, r0, f1, f2, e, ⟨a, vs, e3, g, rd, rfl⟩, h2, rfl⟩, nd, out, tr, tb⟩ := h
  injection e with e1 e2
  subst e1; subst e2
  exact ⟨a, vs, e3, g, rd⟩
theorem im_false {a : Addr} : w.im false a → w.I a := fun z => z.elim id fun z => by cases z.1
theorem RD.false {d : D} {y : V} (h : RD C H (w.im false) d y) : RD C H w.I d y := RD_mono (fun a z => ⟨im_false z, rfl⟩) _ _ h

theorem Stt.forgetTail {vs : List Nat} (h : Stt C w H (t :: ρ) (v :: σ)) (c : Chg vs σ σ') : Stt C w H (t :: killL vs ρ) (v :: σ') := by
  obtain ⟨wt, eI, eB, S1, back⟩ := h.push
  have l := S1.len
  have q : Stt C w H (t :: killL vs ρ) (v :: σ) := by
    obtain ⟨F, ⟨v0, r, f1, f2, e, h1, h2, rfl⟩, nd, out, tr, tb⟩ := h
    injection e with e1 e2
    subst e1; subst e2
    have aux : ∀ (vs : List Nat) (ρ : List T) (f2 : List Addr), RTs C w H ρ σ f2 → ∃ g, RTs C w H (killL vs ρ) σ g ∧ g.Sublist f2 := by
      intro vs
      induction vs with
      | nil => exact fun ρ f2 h => ⟨f2, h, .refl _⟩
      | cons j vs ih =>
        intro ρ f2 h
        by_cases hj : j < ρ.length
        · obtain ⟨v', g1, gp, g2, hv, k1, rfl, put⟩ := h.at (List.getElem?_eq_getElem hj)
          have z := put .dead v' [] rfl
          rw [set_same hv] at z
          obtain ⟨g, z1, z2⟩ := ih _ _ z
          refine ⟨g, z1, z2.trans ?_⟩
          simp only [List.append_nil]
          exact List.Sublist.append (List.sublist_append_left _ _) (.refl _)
        · have z : ρ.set j .dead = ρ := List.set_eq_of_length_le (by omega)
          show ∃ g, RTs C w H (killL vs (ρ.set j .dead)) σ g ∧ g.Sublist f2
          rw [z]
          exact ih ρ f2 h
    obtain ⟨g, z1, z2⟩ := aux vs ρ f2 h2
    refine ⟨f1 ++ g, ⟨_, _, f1, g, rfl, h1, z1, rfl⟩, nd.sublist (List.Sublist.append (.refl _) z2), fun a ha => out a ?_, tr, tb⟩
    rcases List.mem_append.mp ha with z | z
    · exact List.mem_append_left _ z
    · exact List.mem_append_right _ (z2.subset z)
  refine q.alt (by simpa using c.1) fun i => ?_
  match i with
  | 0 => exact .inr rfl
  | i + 1 =>
    by_cases hi : i ∈ vs
    · by_cases hl : i < ρ.length
      · exact .inl (by simpa using killL_at hi hl)
      · right
        simp only [List.getElem?_cons_succ]
        rw [List.getElem?_eq_none (by have := c.1; omega), List.getElem?_eq_none (by omega)]
    · exact .inr (by simpa using c.2 i hi)
/-! comprehensions -/
structure STs (X : Cx) (ca : Cad) (W : WX) (es : List Expr) (d : DT) : Prop where
  pts : PTs X es (tT ⟨X.K, ca⟩ W d)
def dtYes : DT := fun ρ => .ok true ρ
theorem PTs.imp {X : Cx} {e : List Expr} {t t' : TT} (h : PTs X e t) (i : ∀ σ H Q, t' σ H Q → t σ H Q) : PTs X e t' := ⟨fun pins s σ H Q I q => h.run pins s σ H Q I (i σ H Q q)⟩
theorem sts_nil : STs X ca W [] dtYes := ⟨PTs.imp pts_nil fun σ H Q h => by
  obtain ⟨w, ρ, S, k⟩ := h
  exact k w H .refl S⟩
abbrev WF : WX := fun _ _ _ _ => False
def compL (dg : DG) (dt : DT) (de : DE) (own : List Nat) (b : Bool) : List D → List T → ER (List D)
  | [], ρ => .ok [] ρ
  | d :: ds, ρ => match dg (.imm b d) ρ with
    | none => .bad
    | some ρ1 => match dt ρ1 with
      | .ok true ρ2 => match de ρ2 with
        | .ok t ρ3 => match t.frz with
          | some (false, e) => match compL dg dt de own b ds (killL own ρ3) with
            | .ok r ρ4 => .ok (e :: r) ρ4
            | _ => .bad
          | _ => .bad
        | _ => .bad
      | .ok false ρ2 => compL dg dt de own b ds (killL own ρ2)
      | _ => .bad
def dLc (own : List Nat) (dg : DG) (di : DI) (dt : DT) (de : DE) : DE := fun ρ => match di ρ with
  | .ok p ρ1 => match compL dg dt de own p.1 p.2 (killL own ρ1) with
    | .ok r ρ2 => .ok (.lstI r) (killL own ρ2)
    | _ => .bad
  | .exc e ρ1 => .exc e ρ1
  | .bad => .bad
/-- what a comprehension's parts are in each block -/
structure Blk (X : Cx) (ca : Cad) (scope : Scope) (own : List (Str × Nat)) (ch : List Nat) (tg elt : Expr) (ifs : List Expr) (dg : DG) (dt : DT) (de : DE) : Prop where
  ok : BlkOk X.N X.env.scope scope own
  nd : X.N.Nodup
  g : ∀ (s : Shared) (H : Hp) (C : Addr) (cl : List (Str × Addr)) (fp : List Addr), SG (X.blk s H scope (compEnvC scope cl C X.env) fp) ca ch tg dg
  t : ∀ (s : Shared) (H : Hp) (C : Addr) (cl : List (Str × Addr)) (fp : List Addr), STs (X.blk s H scope (compEnvC scope cl C X.env) fp) ca WF ifs dt
  e : ∀ (s : Shared) (H : Hp) (C : Addr) (cl : List (Str × Addr)) (fp : List Addr), SE (X.blk s H scope (compEnvC scope cl C X.env) fp) ca WF elt de
  ch : ∀ i ∈ ch, i ∈ own.map (·.2)
theorem lcT {dg : DG} {di : DI} {dt : DT} {de : DE} {vs : List Nat} (hch : ∀ i ∈ ch, i ∈ vs) {Q : VK} (h : tE C W (dLc vs dg di dt de) σ H Q) :
    tLc (tI C W di) (tG C ch dg) (tT C WF dt) (tE C WF de) vs σ H Q := by
  obtain ⟨w, ρ, S, k⟩ := h
  refine ⟨w, ρ, S, ?_⟩
  unfold dLc at k
  cases e : di ρ with
  | bad => rw [e] at k; exact k
  | exc x ρ1 => rw [e] at k; exact k
  | ok p ρ1 =>
    simp only [e] at k
    obtain ⟨b, ds⟩ := p
    intro w1 H1 J A1 S1 wk
    have wk : Walk C w1 H1 J b ds := wk
    intro Dp hD
    have k1 : kE C W w1 H1 σ Q (match compL dg dt de vs b ds (killL vs ρ1) with | .ok r ρ2 => .ok (.lstI r) (killL vs ρ2) | _ => .bad) := kE.after A1 k
    obtain ⟨A2, S2⟩ := (S1.forget chg_wipe : Stt C w1 H1 (killL vs ρ1) (wipe σ vs)).newL (ds := []) (vs := []) rfl hD
    refine ⟨fun i m H' => m = ds.length - i ∧ i ≤ ds.length ∧ ∃ w' ρ' acc, acc.length ≤ i ∧ After w1 H1 w' H' ∧ Stt C w' H' (.lstI acc :: ρ') (some (.ref Dp) :: wipe σ vs) ∧
      kE C W w' H' σ Q (match compL dg dt de vs b (ds.drop i) ρ' with | .ok r ρ2 => .ok (.lstI (acc ++ r)) (killL vs ρ2) | _ => .bad),
      ⟨ds.length, by simp, Nat.zero_le _, w1, _, [], Nat.le_refl _, A2, S2, by simpa using kE.after A2 k1⟩, ?_⟩
    rintro i m H2 ⟨rfl, hi, w2, ρ2, acc, hacc, A3, S3, k2⟩
    by_cases hl : i < ds.length
    · refine .inr ⟨wk.go i w2 H2 hl A3, fun H' => ∃ w' ρ' acc, acc.length ≤ i + 1 ∧ After w1 H1 w' H' ∧ Stt C w' H' (.lstI acc :: ρ') (some (.ref Dp) :: wipe σ vs) ∧
        kE C W w' H' σ Q (match compL dg dt de vs b (ds.drop (i + 1)) ρ' with | .ok r ρ2 => .ok (.lstI (acc ++ r)) (killL vs ρ2) | _ => .bad), fun H' z => ⟨ds.length - (i + 1), by omega, rfl, hl, z⟩, fun x H3 y => ?_⟩
      have hd' : ds[i]? = some ds[i] := List.getElem?_eq_getElem hl
      obtain ⟨w3, A4, S4⟩ := wk.yld i _ w2 H2 _ _ x H3 hd' A3 S3 y
      obtain ⟨x', ex, rx⟩ := S4.head_imm
      cases ex
      obtain ⟨wt, eI, eB, S5, back⟩ := S4.drop.push
      have rx' : RD C H3 (wt.im b) ds[i] x := by
        have : wt.im b = w3.im b := by unfold Wd.im; rw [eI, eB]
        rw [this]; exact rx
      rw [List.drop_eq_getElem_cons hl] at k2
      unfold compL at k2
      cases eg : dg (.imm b ds[i]) ρ2 with
      | none => simp only [eg] at k2; exact k2.elim
      | some ρ3 =>
        simp only [eg] at k2
        refine ⟨wt, ρ2, _, ρ3, S5.cons_imm rx', eg, fun w6 H6 σ6 A6 S6 c6 => ⟨wipe_chg c6 hch, w6, ρ3, S6, ?_⟩⟩
        cases et : dt ρ3 with
        | bad => simp only [et] at k2; exact k2.elim
        | exc z ρ4 => simp only [et] at k2; exact k2.elim
        | ok bt ρ4 =>
          cases bt with
          | false =>
            simp only [et] at k2
            intro w7 H7 A7 S7
            rw [if_neg (by simp)]
            obtain ⟨w8, _, A8, S8⟩ := back _ _ _ _ (A6.trans A7) S7
            have c6' : Chg vs σ6 (wipe σ vs) := by
              rw [← wipe_chg c6 hch]; exact chg_wipe
            refine ⟨w8, killL vs ρ4, acc, by omega, A3.trans (A4.trans A8), ?_, kE.after (A4.trans A8) k2⟩
            exact S8.forgetTail c6'
          | true =>
            simp only [et] at k2
            intro w7 H7 A7 S7
            rw [if_pos rfl]
            refine ⟨w7, ρ4, S7, ?_⟩
            cases ee : de ρ4 with
            | bad => simp only [ee] at k2; exact k2.elim
            | exc z ρ5 => simp only [ee] at k2; exact k2.elim
            | ok t5 ρ5 =>
              simp only [ee] at k2
              intro w8 H8 y8 A8 S8
              cases ef : t5.frz with
              | none => simp only [ef] at k2; exact k2.elim
              | some q =>
                obtain ⟨bq, dq⟩ := q
                cases bq with
                | true => simp only [ef] at k2; exact k2.elim
                | false =>
                  simp only [ef] at k2
                  obtain ⟨w9, A9, S9⟩ := S8.freeze ef
                  obtain ⟨w10, e10, A10, S10⟩ := back _ _ _ _ (A6.trans (A7.trans (A8.trans A9))) S9
                  obtain ⟨p10, vs10, ep, hp, rds⟩ := S10.head_lstI
                  cases ep
                  obtain ⟨y', ey, ry⟩ := S9.head_imm
                  cases ey
                  have ry' : RD C H8 w10.I dq y8 := by rw [e10]; exact ry.false
                  obtain ⟨A11, S11⟩ := S10.drop2.wr (ds' := acc ++ [dq]) (vs' := vs10 ++ [y8]) (rds.append ⟨y8, [], rfl, ry', rfl⟩)
                  have c6' : Chg vs σ6 (wipe σ vs) := by
                    rw [← wipe_chg c6 hch]; exact chg_wipe
                  refine ⟨vs10, hp, ?_, w10, killL vs ρ5, acc ++ [dq], by simp; omega, A3.trans (A4.trans (A10.trans A11)), S11.forgetTail c6', ?_⟩
                  · rw [← rds.length]
                    have := wk.line
                    omega
                  · have k3 := kE.after (A4.trans (A10.trans A11)) k2
                    cases ec : compL dg dt de vs b (ds.drop (i + 1)) (killL vs ρ5) with
                    | bad => simp only [ec] at k3; exact k3.elim
                    | exc z ρ6 => simp only [ec] at k3; exact k3.elim
                    | ok r ρ6 =>
                      simp only [ec] at k3 ⊢
                      rw [List.append_assoc]
                      exact k3
    · have e : i = ds.length := by omega
      subst e
      refine .inl ⟨wk.stop w2 H2 A3, ?_⟩
      simp [compL] at k2
      exact k2 w2 H2 _ .refl (S3.forgetTail chg_wipe.symm)
end
end Gb

namespace Gb
open PySem PySem.Spec L2 PyProof.Rows
/-! calls where nothing is being printed: guards = some [] beside the room -/
structure RoomG (k : Nat) (A : Around) : Prop where
  r : Room k A
  g : A.guards = some []
theorem RoomG.mono {j k : Nat} {A : Around} (r : RoomG k A) (h : j ≤ k) : RoomG j A := ⟨r.r.mono h, r.g⟩
theorem RoomG.deeper {k : Nat} {A : Around} (r : RoomG (k + 1) A) (env : Env) : RoomG k (A.deeper env) := ⟨r.r.deeper env, r.g⟩
theorem RoomG.units {k : Nat} {A : Around} (r : RoomG k A) : A.units + 64 < cLine := r.r.units
structure FnG (P : Program) (w : World) (K : PySem.W.Frag) (mg : Str → Option Value) (base : Heap) (CX : CXT) (k : Nat) (f : Addr) (fd : FuncData) (ps : List Str) (sp : Sp) : Prop where
  len : ∀ vs H Q E, sp vs H Q E → vs.length = ps.length
  run : ∀ (A : Around) (outer : List Env) (s : Shared) (H : Hp) (args : Args) (us : List Value) (vs : List V) (Q : VK) (E : XK), RoomG k A → Env0 P w K mg base A outer s H → BindsTo s fd args (ps.zip us) → Vals vs us → sp vs H Q E →
    codeAny (model P w) A (.call (.ref f) args) (CR CX outer P w H s Q E) s
theorem FnG.mono {P : Program} {w : World} {K : PySem.W.Frag} {mg : Str → Option Value} {base : Heap} {CX : CXT} {j k : Nat} {f : Addr} {fd : FuncData} {ps : List Str} {sp : Sp} (F : FnG P w K mg base CX j f fd ps sp) (h : j ≤ k) :
    FnG P w K mg base CX k f fd ps sp := ⟨F.len, fun A outer s H args us vs Q E hr => F.run A outer s H args us vs Q E (hr.mono h)⟩
theorem fn_ofG {CX : CXT} {P : Program} {w : World} {K : PySem.W.Frag} {mg : Str → Option Value} {base : Heap} {k : Nat} {f : Addr} {name qual : Str} {params : Arguments} {body : List Stmt} {scope : Scope} {dV kV doc pm cdv ct oc : Value} {an od : Option Addr}
    {osl : Array (Option Value)} {N ps : List Str} {sp : Sp} (lk : K.lookup f = some ⟨oc, od, .func (PySem.W.fnOf name qual params body scope dV kV doc pm an cdv ct), osl⟩) (hcd : PySem.W.codeIn K cdv qual = true) (S : FnScope N ps scope)
    (len : ∀ vs H Q E, sp vs H Q E → vs.length = ps.length)
    (hbody : ∀ (A : Around) (outer : List Env) (s : Shared) (H : Hp) (vs : List V) (Q : VK) (E : XK), RoomG k (A.deeper (envOfC qual scope s.heap.objs.size f cdv)) → sp vs H Q E →
      ∃ t, PSs (cxOf CX P w K mg base N qual scope f cdv A outer s H E) body t ∧ t { nx := fun _ H' => Q .non H', rt := Q } (start N vs) H) :
    FnG P w K mg base CX (k + 1) f (PySem.W.fnOf name qual params body scope dV kV doc pm an cdv ct) ps sp := by
  refine ⟨len, fun A outer s H args us vs Q E hr e0 hb r hsp => ?_⟩
  have hl := len _ _ _ _ hsp
  have KX : K.In s.heap := e0.mod.kin.keeps fun b o e => (e0.bs b o e).1
  have lim : s.heap.NoLimit := e0.mod.nolimit.keeps fun b o e => (e0.bs b o e).1
  have hkind : ∀ y ∈ ps.zip us, scope.names.lookup y.1 = some .local ∨ (scope.names.lookup y.1 = some .cell ∧ ((cellsFrom (s.heap.objs.size + 1) scope.names []).lookup y.1).isSome = true) := fun ⟨n, v⟩ hy => by
    rcases S.par n (List.of_mem_zip hy).1 with q | q
    · exact .inl q
    · exact .inr ⟨q, PySem.W.cellsFrom_some _ _ _ (.inl q)⟩
  refine codeAny_call_function hr.r.depth (KX _ _ lk) rfl S.co S.gen rfl (PySem.W.codeRec_of KX hcd) (hb _ _ _ _ ?_)
  refine wpAny_newFunctionEnv_cells S.kind hkind fun env he s1 x => ?_
  subst he
  refine ⟨lim.keeps x.toInCall.keep, codeAny_func ?_⟩
  obtain ⟨t, ht, hq⟩ := hbody A outer s H vs Q E (hr.deeper _) hsp
  have I : Inv (cxOf CX P w K mg base N qual scope f cdv A outer s H E) [] (start N vs) H s1 := inv_start S hr.r.hd e0 hl r x
  refine wpAny_mono (ht.run [] s1 (start N vs) H _ I hq) (fun fl s' hs => ?_) fun e s' hs => hs
  have fin : ∀ {σ' : L2.St} {H' : Hp} {v : V} {u : Value}, Inv (cxOf CX P w K mg base N qual scope f cdv A outer s H E) [] σ' H' s' → RelV v u → Q v H' → CE outer P w H s Q u s' :=
    fun {σ' H' v u} J rv q => ⟨v, H', J.os, J.bare, J.base, J.hok, rv, q⟩
  cases fl with
  | ret u =>
    obtain ⟨v, σ', H', J, rv, q⟩ := hs
    exact fin J rv q
  | next =>
    obtain ⟨σ', H', J, q⟩ := hs
    exact fin (v := V.non) (u := Value.none) J rfl q
  | brk =>
    obtain ⟨_, _, _, q⟩ := hs
    exact False.elim q
  | cont =>
    obtain ⟨_, _, _, q⟩ := hs
    exact False.elim q
section
variable {X : Cx} {CX : CXT} {k : Nat} {f : Addr} {fd : FuncData} {ps : List Str} {sp : Sp} {dvs : List V} {ds : List Value} {E : L2.St → XK} {x : Str} {p pos : Pos} {e : Expr} {es : List Expr} {t : TA}
theorem run_fnSDG {pins : List (Addr × Obj)} {σ : L2.St} {H : Hp} {s : Shared} {Q : VK} {us : List Value} {vs : List V} (F : FnG X.prog X.w X.K X.mg X.base CX k f fd ps sp) (hr : RoomG k X.A) (hb : Binds X.K fd ps ds) (hd : Vals dvs ds) (hx : PassesAt CX X σ (E σ))
    (I : Inv X pins σ H s) (r : Vals vs us) (h : sp (vs ++ dvs) H Q (E σ)) : wpAny (model X.prog X.w) X.A (call (.ref f) us) (EP X pins σ Q) X.xe s := by
  have r2 : Vals (vs ++ dvs) (us ++ ds) := r.append hd
  have hl : (us ++ ds).length = ps.length := by rw [← r2.length]; exact F.len _ _ _ _ h
  refine wpAny_call (codeAny_mono (F.run X.A X.stack s H ⟨us, []⟩ (us ++ ds) (vs ++ dvs) Q (E σ) hr I.env0 (hb s us I.kIn hl) r2 h) fun r s' hq => ?_)
  cases r with
  | error e => exact hx pins H s e s' I hq
  | ok fl =>
    cases fl with
    | ret u => exact I.after hq
    | next => exact False.elim hq
    | brk => exact False.elim hq
    | cont => exact False.elim hq
theorem pe_callSDG (F : FnG X.prog X.w X.K X.mg X.base CX k f fd ps sp) (hr : RoomG k X.A) (hg : Gl X x) (hm : X.mg x = some (.ref f)) (hk : PySem.W.keepIn X.K (.ref f) = true) (hb : Binds X.K fd ps ds) (hd : Vals dvs ds) (hx : ∀ σ, PassesAt CX X σ (E σ))
    (ha : PA X (e :: es) t) (hdb : (x == ("__debug__" : Str)) = false := by decide) (he : starEach (e :: es) X.env = (false, eval e X.env) :: starEach es X.env := by rfl) (hpl : (backTo pos (starEach es X.env)).any (·.1) = false := by rfl) :
    PE X (.Call (.Name x p) (e :: es) [] pos) (tCallSD sp dvs E t) := by
  refine ⟨fun pins s σ H Q I h => ?_⟩
  refine wpAny_Call_Name_kw (ld_glob I hg hm ?_ hdb)
  refine PySem.W.callWith_K (h₀ := X.base) I.ok.mod.kin hk (thn (ha.run pos pins s σ H _ I h) fun us s1 ⟨vs, H1, I1, r, q⟩ => ⟨I1.kIn, ?_⟩) he hpl
  exact run_fnSDG F hr hb hd (hx σ) I1 r q
end
theorem law_callG {P : Program} {w : World} {K : PySem.W.Frag} {mg mb : Str → Option Value} {CX : CXT} {k : Nat} {fa a : Addr} {fd : FuncData} {x : Str} {sp : Sp} {s₁ : Shared} {vs : List Value} {ns : List Int}
    (KX : K.In s₁.heap) (hns : s₁.heap.Ns mainGlobals mg) (hb : s₁.heap.Ns builtinsNs mb) (hbb : ∀ x : Str, x ≠ "__name__" → mb x = bootBuiltins x) (hlim : s₁.heap.NoLimit) (hg : s₁.gens = #[])
    (ha : s₁.heap.get? a = some { cls := .type "list", data := .seq vs.toArray }) (hi : IntsAre vs ns) (hl : ns.length ≤ sizeLine) (hr : RoomG k callerA)
    (F : ∀ base : Heap, K.In base → base.Ns mainGlobals mg → FnG P w K mg base CX k fa fd [x] sp) (hbind : ∀ (s : Shared) (u : Value), BindsTo s fd ⟨[u], []⟩ [(x, u)])
    (hsp : ∀ H : Hp, Only H → SqL K H a (ns.map V.int) → sp [.ref a] H (fun v _ => v = .bl true) fun _ _ _ => False)
    (hCX : ∀ H e s', CX [] H s₁ (fun _ _ _ => False) e s' → False) :
    codeAny (model P w) callerA (.call (.ref fa) ⟨[.ref a], []⟩) (fun r s' => r = .ok (.ret (.bool true)) ∧ OldK s₁.heap s'.heap ∧ s'.os = s₁.os ∧ AllBare s'.gens) s₁ := by
  have rv := vals_ints hi
  have lenV := hi.length
  -- from an abstract heap in which nothing but the script may be tracked
  have core : ∀ H : Hp, Only H → SqL K H a (ns.map V.int) → HOk P w H s₁.heap → (∀ b, H b ≠ none → b = a) → (H a ≠ none → K.lookup a = none) →
      codeAny (model P w) callerA (.call (.ref fa) ⟨[.ref a], []⟩) (fun r s' => r = .ok (.ret (.bool true)) ∧ OldK s₁.heap s'.heap ∧ s'.os = s₁.os ∧ AllBare s'.gens) s₁ := by
    intro H hO hS hok hA hK
    have base_of : ∀ {b : Addr} {o : Obj}, s₁.heap.get? b = some o → H b = none → (hidT s₁.heap H).get? b = some o := fun e n => hidT_get e n
    have noA : ∀ {b : Addr} {o : Obj} {es : Array DictEntry} {ep : Nat}, s₁.heap.get? b = some o → o.data = .dict es ep → H b = none := fun {b o es ep} e d => by
      cases q : H b with
      | none => rfl
      | some u =>
        have e' : b = a := hA b (by rw [q]; simp)
        subst e'
        rw [ha] at e; cases e
        have d' : Data.seq vs.toArray _ = Data.dict es ep := d
        cases d'
    have nsK : ∀ {b : Addr} {m : Str → Option Value}, s₁.heap.Ns b m → (hidT s₁.heap H).Ns b m := fun {b m} ⟨o, es, ep, e, d, r⟩ => ⟨o, es, ep, base_of e (noA e d), d, r⟩
    have hKb : K.In (hidT s₁.heap H) := fun b o e => base_of (KX b o e) (by
      cases q : H b with
      | none => rfl
      | some u =>
        have e' : b = a := hA b (by rw [q]; simp)
        subst e'
        rw [hK (by rw [q]; simp)] at e; cases e)
    have hM : Mod K mg (hidT s₁.heap H) := ⟨hKb, nsK hns, ⟨mb, nsK hb, hbb⟩, let ⟨mc, h1, h2⟩ := hlim; ⟨mc, nsK h1, h2⟩⟩
    have e0 : Env0 P w K mg (hidT s₁.heap H) callerA [] s₁ H := ⟨rfl, hM, fun b o e => of_hidT e, Nat.le_of_eq (hidT_size _ _), trivial, fun b hb => absurd (show b ∈ ([] : List Addr) from hb) (by simp), hok, .of_eq hg⟩
    refine codeAny_mono ((F _ hKb (nsK hns)).run callerA [] s₁ H ⟨[.ref a], []⟩ [.ref a] [.ref a] _ _ hr e0 (hbind s₁ (.ref a)) (.cons rfl .nil) (hsp H hO hS)) fun r s' h => ?_
    cases r with
    | error e => exact (hCX H e s' h).elim
    | ok fl =>
      cases fl with
      | next => exact False.elim h
      | brk => exact False.elim h
      | cont => exact False.elim h
      | ret u =>
        obtain ⟨v, H', os, bare, un, hok', r', q⟩ := h
        have q' : v = .bl true := q
        subst q'
        obtain rfl : u = Value.bool true := r'
        refine ⟨rfl, OldK.of_keep fun b o e => ?_, os, bare⟩
        cases q : H b with
        | none => exact un.keep b o e q (by intro z; exact absurd (show b ∈ ([] : List Addr) from z) (by simp)) (by simp)
        | some u =>
          rcases hO b with z | ⟨ob, xs, z⟩
          · rw [q] at z; cases z
          · have z2 := un.frzs b ob _ z
            obtain ⟨e1, _⟩ := hok b _ z
            obtain ⟨e2, _⟩ := hok' b _ z2
            rw [e] at e1; cases e1
            exact e2
  cases hk : K.lookup a with
  | some o =>
    -- the script is one of the module's own objects
    have e := KX a o hk
    rw [ha] at e
    cases e
    refine core (fun _ => none) (fun _ => .inl rfl) (.inr ⟨_, vs.toArray, _, hk, rfl, rfl, rfl, by rw [List.size_toArray, lenV]; exact hl, by simpa using rv⟩) (fun b u z => by have z' : (none : Option HO) = some u := z; cases z') (fun b z => absurd rfl z) fun z => absurd rfl z
  | none =>
    refine core (fun b => if b = a then some (.frz { cls := .type "list", data := .seq vs.toArray } (.lst (ns.map V.int))) else none) (fun b => ?_) (.inl (.inr ⟨{ cls := .type "list", data := .seq vs.toArray }, if_pos rfl⟩)) (fun b u z => ?_) (fun b z => ?_) fun _ => hk
    · by_cases hb : b = a
      · exact .inr ⟨_, _, if_pos hb⟩
      · exact .inl (if_neg hb)
    · by_cases hb : b = a
      · have z' := (if_pos hb).symm.trans z
        cases z'
        subst hb
        exact ⟨ha, by rw [List.length_map]; exact hl, vs, _, rv, ha⟩
      · have z' := (if_neg hb).symm.trans z
        cases z'
    · by_cases hb : b = a
      · exact hb
      · exact absurd (if_neg hb) z
theorem walk_ofG {l : PySem.W.OpenLaw} {n k : Nat} {q : Program} {loose : List Str} {XP : (Str → Option Value) → Heap → Prop} {YP : World → Heap → Prop} {d : DefRec} {K : Params → PySem.W.Frag} {CX : World → CXT} {sp : World → Sp} {x : Str}
    (hn : l.most = some n) (hn2 : n ≤ sizeLine) (hdf : d.params.defaults = []) (hr : RoomG k callerA)
    (hY : ∀ (w : World) (h : Heap), YP w h → (K w.params).In h)
    (F : ∀ (w : World) (mg : Str → Option Value) (fa : Addr) (h : Heap), (K w.params).In h → h.Ns mainGlobals mg → mg d.name = some (.ref fa) →
      ∃ fd : FuncData, (∀ (s : Shared) (u : Value), BindsTo s fd ⟨[u], []⟩ [(x, u)]) ∧
        ∀ base : Heap, (K w.params).In base → base.Ns mainGlobals mg → FnG l.prog w (K w.params) mg base (CX w) k fa fd [x] (sp w))
    (hsp : ∀ (w : World) (H : Hp) (a : Addr) (ns : List Int), ns.length ≤ n → Only H → SqL (K w.params) H a (ns.map V.int) → sp w [.ref a] H (fun v _ => v = .bl true) fun _ _ _ => False)
    (hCX : ∀ (w : World) (H : Hp) (s : Shared) (e : Value) (s' : Shared), CX w [] H s (fun _ _ _ => False) e s' → False) :
    PySem.W.WalkO q loose XP YP l.row.toRowW d [] (fun f vs => PySem.call f vs) := by
  refine Att.attach_call hn hdf fun w s₀ s₁ mg mb fa o pm cd doc a vs ns G Y ho hd hcd hmg hobj hints hlen hg => ?_
  have KX := hY w _ Y
  obtain ⟨fd, hb, hF⟩ := F w mg fa _ KX G.T.g hmg
  exact law_callG KX G.T.g G.T.b G.T.builtins G.T.nolimit hg hobj hints (Nat.le_trans hlen hn2) hr hF hb (fun H hO hS => hsp w H a ns hlen hO hS) fun H e s' => hCX w H s₁ e s'
end Gb

namespace Gb
open PySem PySem.Spec L2
open PyProof.Rows (envOfC)
section
variable {C : Ct} {W : WX} {pn ch : List Nat} {w w' : Wd} {H H' : Hp} {σ σ' : L2.St} {En : Ends} {X : Cx} {ca : Cad} {ρ : List T} {t u : T} {v x : Option V}
/-- what stands behind is laid aside -/
theorem Stt.pushT {ts : List T} {vs : L2.St} (h : Stt C w H (ts ++ ρ) (vs ++ σ)) (l : vs.length = ts.length) : ∃ wt : Wd, wt.I = w.I ∧ wt.B = w.B ∧ Stt C wt H ts vs ∧
    ∀ (w' : Wd) (H' : Hp) (ts' : List T) (vs' : L2.St), After wt H w' H' → Stt C w' H' ts' vs' → ∃ w'', w''.I = w'.I ∧ After w H w'' H' ∧ Stt C w'' H' (ts' ++ ρ) (vs' ++ σ) := by
  obtain ⟨F, rt, nd, out, tr, tb⟩ := h
  obtain ⟨v1, v2, f1, f2, ev, rfl, h1, h2⟩ := rt.split
  have l1 := h1.length
  obtain ⟨rfl, rfl⟩ := List.append_inj ev (by omega)
  have nd2 := List.nodup_append.mp nd
  refine ⟨⟨w.I, w.B, fun a => w.R a ∨ a ∈ f2⟩, rfl, rfl, ⟨f1, ?_, nd2.1, fun a ha => ?_, fun a ha => ?_, tb⟩, fun w' H' ts' vs' A S => ?_⟩
  · exact RTs_mono (w := w) (w' := ⟨w.I, w.B, fun a => w.R a ∨ a ∈ f2⟩) (H := H) (fun a z => ⟨z, rfl⟩) (fun a z => ⟨z, rfl⟩) _ _ _ (fun _ _ => rfl) h1
  · have q := out a (List.mem_append_left _ ha)
    exact ⟨q.1, q.2.1, fun z => z.elim q.2.2 fun z => nd2.2.2 a ha a z rfl⟩
  · rcases ha with z | z | z | z
    · exact tr a (.inl z)
    · exact tr a (.inr (.inl z))
    · exact tr a (.inr (.inr z))
    · obtain ⟨o, ho⟩ := RTs_some _ _ _ h2 a z
      rw [ho]; simp
  · obtain ⟨F', rt', nd', out', tr', tb'⟩ := S
    have hB : w'.B = w.B := A.B
    have hR : w'.R = fun a => w.R a ∨ a ∈ f2 := A.R
    refine ⟨⟨w'.I, w'.B, w.R⟩, rfl, ⟨A.I, hB, rfl, fun a z => ?_, fun a z => ?_⟩, F' ++ f2, RTs.append ?_ ?_, ?_, fun a ha => ?_, fun a z => ?_, tb'⟩
    · rcases A.new a z with z | ⟨z1, z2⟩
      · exact .inl z
      · exact .inr ⟨z1, fun q => z2 (.inl q)⟩
    · refine A.keep a ?_
      rcases z with z | z | z
      · exact .inl z
      · exact .inr (.inl z)
      · exact .inr (.inr (.inl z))
    · exact RTs_mono (w := w') (w' := ⟨w'.I, w'.B, w.R⟩) (H := H') (fun a z => ⟨z, rfl⟩) (fun a z => ⟨z, rfl⟩) _ _ _ (fun _ _ => rfl) rt'
    · refine RTs_mono (w := w) (w' := ⟨w'.I, w'.B, w.R⟩) (H := H) (fun a z => ⟨A.I a z, A.keep a (.inl z)⟩) (fun a z => ⟨by show w'.B a; rw [hB]; exact z, A.keep a (.inr (.inl z))⟩) _ _ _ (fun a z => A.keep a (.inr (.inr (.inr z)))) h2
    · refine List.nodup_append.mpr ⟨nd', nd2.2.1, fun a ha b hb e => ?_⟩
      subst e
      refine (out' a ha).2.2 ?_
      rw [hR]; exact .inr hb
    · rcases List.mem_append.mp ha with ha | ha
      · have q := out' a ha
        refine ⟨q.1, q.2.1, fun z => q.2.2 ?_⟩
        rw [hR]; exact .inl z
      · have q := out a (List.mem_append_right _ ha)
        refine ⟨fun z => ?_, by show ¬ w'.B a; rw [hB]; exact q.2.1, q.2.2⟩
        rcases A.new a z with z | ⟨_, z⟩
        · exact q.1 z
        · exact z (.inr ha)
    · refine tr' a ?_
      rcases z with z | z | z
      · exact .inl z
      · exact .inr (.inl z)
      · exact .inr (.inr (by rw [hR]; exact .inl z))
theorem Stt.head (h : Stt C w H (t :: ρ) (v :: σ)) : Stt C w H [t] [v] := by
  obtain ⟨F, ⟨v0, r, f1, f2, e, h1, h2, rfl⟩, nd, out, tr, tb⟩ := h
  injection e with e1 e2
  subst e1; subst e2
  exact ⟨f1, ⟨v, [], f1, [], rfl, h1, ⟨rfl, rfl⟩, by simp⟩, (List.nodup_append.mp nd).1, fun a ha => out a (List.mem_append_left _ ha), tr, tb⟩
theorem Stt.nil (h : Stt C w H ρ σ) : Stt C w H [] [] := by
  obtain ⟨F, _, nd, out, tr, tb⟩ := h
  exact ⟨[], ⟨rfl, rfl⟩, by simp, fun a ha => by simp at ha, tr, tb⟩

/-! functions -/
inductive FR where
  | ok (t : T) | okm (t : T) (outs : List T) | exc (e : Ex) | excm (e : Ex) (outs : List T) | bad
abbrev FnT := List T → FR
def kF (C : Ct) (w : Wd) (H : Hp) (vs : List V) (Q : VK) (E : XK) : FR → Prop
  | .ok t => ∀ w' H' v, After w H w' H' → Stt C w' H' [t] [some v] → Q v H'
  | .okm t outs => ∀ w' H' v, After w H w' H' → Stt C w' H' (t :: outs) (some v :: vs.map some) → Q v H'
  | .exc e => ∀ w' H' cls dx, After w H w' H' → Stt C w' H' [] [] → ExAt C w'.I H' e cls dx → E cls dx H'
  | .excm e outs => ∀ w' H' cls dx, After w H w' H' → Stt C w' H' outs (vs.map some) → ExAt C w'.I H' e cls dx → E cls dx H'
  | .bad => False
def spF (C : Ct) (Fn : FnT) : Sp := fun vs H Q E => ∃ w ts, Stt C w H ts (vs.map some) ∧ kF C w H vs Q E (Fn ts)
/-- a def whose arguments are not changed -/
def fin : SR → FR
  | .next _ => .ok (.imm false .non)
  | .ret t _ => .ok t
  | .exc e _ => .exc e
  | .brk _ => .bad
  | .cont _ => .bad
  | .bad => .bad
def mkFn (N n : Nat) (body : DS) : FnT := fun ts => if ts.length = n then fin (body (ts ++ List.replicate (N - n) .dead)) else .bad
theorem Stt.dead_append : ∀ (k : Nat), Stt C w H ρ σ → Stt C w H (ρ ++ List.replicate k .dead) (σ ++ List.replicate k none) := fun k h => by
  obtain ⟨F, rt, nd, out, tr, tb⟩ := h
  have aux : ∀ k, RTs C w H (List.replicate k .dead) (List.replicate k none) [] := by
    intro k
    induction k with
    | zero => exact ⟨rfl, rfl⟩
    | succ k ih => exact ⟨none, List.replicate k none, [], [], rfl, rfl, ih, rfl⟩
  exact ⟨F ++ [], RTs.append rt (aux k), by simpa using nd, fun a ha => out a (by simpa using ha), tr, tb⟩
theorem start_len {N : List Str} {vs : List V} {n : Nat} (l : vs.length = n) : L2.start N vs = vs.map some ++ List.replicate (N.length - n) none := by
  unfold L2.start; rw [l]
variable {P : Program} {wd : World} {K : PySem.W.Frag} {mg : Str → Option Value} {base : Heap}
theorem fn_body {N ps : List Str} {body : DS} {vs : List V} {H : Hp} {Q : VK} {E : XK} (h : spF C (mkFn N.length ps.length body) vs H Q E) :
    tS C (fun cls d _ H => E cls d H) [] body { nx := fun _ H' => Q .non H', rt := Q } (L2.start N vs) H := by
  obtain ⟨w, ts, S, k⟩ := h
  unfold mkFn at k
  by_cases lt : ts.length = ps.length
  case neg => rw [if_neg lt] at k; exact k.elim
  rw [if_pos lt] at k
  have l : vs.length = ps.length := by
    have := S.len
    rw [List.length_map] at this
    omega
  refine ⟨w, ts ++ List.replicate (N.length - ps.length) .dead, ?_, ?_⟩
  · rw [start_len l]
    exact S.dead_append _
  · cases e : body (ts ++ List.replicate (N.length - ps.length) T.dead) with
    | next ρ' =>
      simp only [e, fin] at k
      exact fun w1 H1 σ1 A1 S1 _ => k w1 H1 .non A1 (S1.nil.cons_imm rfl)
    | ret t ρ' =>
      simp only [e, fin] at k
      exact fun w1 H1 σ1 v A1 S1 _ => k w1 H1 v A1 S1.head
    | exc x ρ' =>
      simp only [e, fin] at k
      exact fun w1 H1 σ1 cls dx A1 S1 _ x1 => k w1 H1 cls dx A1 S1.nil x1
    | brk _ => simp only [e, fin] at k; exact k.elim
    | cont _ => simp only [e, fin] at k; exact k.elim
    | bad => simp only [e, fin] at k; exact k.elim
theorem spF_len {n N : Nat} {body : DS} {vs : List V} {H : Hp} {Q : VK} {E : XK} (h : spF C (mkFn N n body) vs H Q E) : vs.length = n := by
  obtain ⟨w, ts, S, k⟩ := h
  unfold mkFn at k
  by_cases lt : ts.length = n
  · have := S.len
    rw [List.length_map] at this
    omega
  · rw [if_neg lt] at k; exact k.elim
/-- a def keeps its denotation -/
theorem fn_ok {ca : Cad} {x qual : Str} {st : Stmt} {f : Addr} {fd : FuncData} {N ps : List Str} {k : Nat} {body : DS} (F : Fun K x qual st f fd) (S : FnScope N ps (defScope st))
    (hb : ∀ (cdv : Value) (A : Around) (outer : List Env) (s : Shared) (H : Hp) (E : XK), RoomG k (A.deeper (envOfC qual (defScope st) s.heap.objs.size f cdv)) →
      SB (cxOf (L2.CX P wd) P wd K mg base N qual (defScope st) f cdv A outer s H E) ca (fun cls d _ H => E cls d H) [] (defBody st) body) : FnG P wd K mg base (L2.CX P wd) (k + 1) f fd ps (spF ⟨K, ca⟩ (mkFn N.length ps.length body)) :=
  by
    obtain ⟨oc, od, kV, doc, pm, an, cdv, ct, osl, rfl, lk, hcd⟩ := F.ex
    exact fn_ofG lk hcd S (fun vs H Q E h => spF_len h) fun A outer s H vs Q E hr h => ⟨_, (hb cdv A outer s H E hr).pss, fn_body h⟩

/-! calls -/
structure Cal (P : Program) (wd : World) (K : PySem.W.Frag) (mg : Str → Option Value) (base : Heap) (ca : Cad) (k : Nat) (x : Str) (ds : List D) (Fn : FnT) : Prop where
  ex : ∃ (f : Addr) (fd : FuncData) (ps : List Str) (dvs : List V) (us : List Value), FnG P wd K mg base (L2.CX P wd) k f fd ps (spF ⟨K, ca⟩ Fn) ∧ mg x = some (.ref f) ∧ PySem.W.keepIn K (.ref f) = true ∧ Binds K fd ps us ∧ Vals dvs us ∧
    ∀ (H : Hp) (A : Addr → Prop), RDs ⟨K, ca⟩ H A ds dvs
def afterCall (ρ : List T) : FR → ER T
  | .ok t => .ok t ρ
  | .okm t _ => .ok t ρ
  | .exc e => .exc e ρ
  | .excm e _ => .exc e ρ
  | .bad => .bad
def dCall (Fn : FnT) (ds : List D) (da : DA) : DE := fun ρ => (da ρ).bind fun ts ρ1 => afterCall ρ1 (Fn (ts ++ ds.map (T.imm false)))
theorem exA {da : DA} {g : List T → List T → ER T} {Q : VK} {R' : List V → Hp → Prop} (h : tE C W (fun ρ => (da ρ).bind g) σ H Q) (hr : ∀ w H ts ρ vs, vs.length = ts.length → Stt C w H (ts ++ ρ) (vs.map some ++ σ) → kE C W w H σ Q (g ts ρ) → R' vs H) : tA C W da σ H R' := by
  obtain ⟨w, ρ, S, k⟩ := h
  refine ⟨w, ρ, S, ?_⟩
  cases e : da ρ with
  | bad => simp only [e] at k; exact k
  | exc x ρ1 => simp only [e] at k; exact k
  | ok t ρ1 =>
    simp only [e, fin] at k
    exact fun w1 H1 v l A1 S1 => hr w1 H1 t ρ1 v l S1 (kE.after A1 k)
theorem Stt.append_imms : ∀ {ds : List D} {xs : List V} {ts : List T} {vs : L2.St}, Stt C w H ts vs → RDs C H (w.im false) ds xs → Stt C w H (ts ++ ds.map (T.imm false)) (vs ++ xs.map some) := fun {ds xs ts vs} h r => by
  obtain ⟨F, rt, nd, out, tr, tb⟩ := h
  have aux : ∀ (ds : List D) (xs : List V), RDs C H (w.im false) ds xs → RTs C w H (ds.map (T.imm false)) (xs.map some) [] := by
    intro ds
    induction ds with
    | nil =>
      intro xs r
      have e : xs = [] := r
      subst e
      exact ⟨rfl, rfl⟩
    | cons d ds ih =>
      intro xs r
      obtain ⟨y, ys, rfl, h1, h2⟩ := r
      exact ⟨some y, ys.map some, [], [], rfl, ⟨y, rfl, h1, rfl⟩, ih ys h2, rfl⟩
  exact ⟨F ++ [], RTs.append rt (aux ds xs r), by simpa using nd, fun a ha => out a (by simpa using ha), tr, tb⟩
/-- the callee's reading from the caller's -/
theorem callT {Fn : FnT} {ds : List D} {dvs : List V} {vs : List V} {ts : List T} {Q : VK} (l : vs.length = ts.length) (S : Stt C w H (ts ++ ρ) (vs.map some ++ σ)) (hd : ∀ (H : Hp) (A : Addr → Prop), RDs C H A ds dvs)
    (k : kE C W w H σ Q (afterCall ρ (Fn (ts ++ ds.map (T.imm false))))) : spF C Fn (vs ++ dvs) H Q (fun cls dx H' => W cls dx σ H') := by
  obtain ⟨wt, eI, eB, S1, back⟩ := S.pushT (by simpa using l)
  refine ⟨wt, _, by rw [List.map_append]; exact S1.append_imms (hd _ _), ?_⟩
  cases e : Fn (ts ++ ds.map (T.imm false)) with
  | bad => rw [e] at k; exact k
  | ok t =>
    rw [e] at k
    intro w2 H2 v A2 S2
    obtain ⟨w3, e3, A3, S3⟩ := back _ _ _ _ A2 S2
    exact k w3 H2 v A3 S3
  | okm t outs =>
    rw [e] at k
    intro w2 H2 v A2 S2
    obtain ⟨w3, e3, A3, S3⟩ := back _ _ _ _ A2 S2.head
    exact k w3 H2 v A3 S3
  | exc x =>
    rw [e] at k
    intro w2 H2 cls dx A2 S2 x2
    obtain ⟨w3, e3, A3, S3⟩ := back _ _ _ _ A2 S2
    exact k w3 H2 cls dx A3 S3 (x2.I e3)
  | excm x outs =>
    rw [e] at k
    intro w2 H2 cls dx A2 S2 x2
    obtain ⟨w3, e3, A3, S3⟩ := back _ _ _ _ A2 S2.nil
    exact k w3 H2 cls dx A3 S3 (x2.I e3)
theorem se_call {k : Nat} {x : Str} {ds : List D} {Fn : FnT} {e : Expr} {es : List Expr} {da : DA} {p pos : Pos} (c : Cal X.prog X.w X.K X.mg X.base ca k x ds Fn) (hr : RoomG k X.A) (tk : Takes X W) (ha : SA X ca W (e :: es) da) (hg : Gl X x := by rfl)
    (hdb : (x == ("__debug__" : Str)) = false := by decide) (he : starEach (e :: es) X.env = (false, eval e X.env) :: starEach es X.env := by rfl) (hpl : (backTo pos (starEach es X.env)).any (·.1) = false := by rfl) :
    SE X ca W (.Call (.Name x p) (e :: es) [] pos) (dCall Fn ds da) := by
  obtain ⟨f, fd, ps, dvs, us, F, hm, hk, hb, hd, rd⟩ := c.ex
  exact ⟨PE.imp (pe_callSDG F hr hg hm hk hb hd (fun σ => passAt tk σ) ha.pa hdb he hpl) fun σ H Q q => exA q fun w H ts ρ vs l S kk => callT l S rd kk⟩
end
end Gb

namespace Gb
open PySem PySem.Spec L2

/-! names and constants -/
def dVar (i : Nat) : DE := fun ρ => match ρ[i]? with
  | some t => match t.frz with
    | some (b, d) => .ok (.imm b d) (ρ.set i (.imm b d))
    | none => .bad
  | none => .bad
def dMove (i : Nat) : DE := fun ρ => match ρ[i]? with
  | some .dead => .bad
  | some (.bag _ _) => .bad
  | some t => .ok t (ρ.set i .dead)
  | none => .bad
def dC (d : D) : DE := fun ρ => .ok (.imm false d) ρ
def dFr (de : DE) : DE := fun ρ => (de ρ).bind fun t ρ' => match t.frz with
  | some (b, d) => .ok (.imm b d) ρ'
  | none => .bad
section
variable {C : Ct} {W : WX} {pn ch : List Nat} {w w' : Wd} {H H' : Hp} {σ σ' : L2.St} {En : Ends} {X : Cx} {ca : Cad} {ρ : List T} {t u : T} {v x : Option V}
theorem RT_live : ∀ {t : T} {v : Option V} {fp : List Addr}, RT C w H t v fp → t ≠ .dead → (∀ as ts, t ≠ .bag as ts) → ∃ y, v = some y
  | .dead, _, _, _, n, _ => absurd rfl n
  | .imm _ _, _, _, ⟨x, e, _⟩, _, _ => ⟨x, e⟩
  | .lstI _, _, _, ⟨_, _, e, _⟩, _, _ => ⟨_, e⟩
  | .lst _, _, _, ⟨_, _, _, e, _⟩, _, _ => ⟨_, e⟩
  | .dicI _ _, _, _, ⟨_, _, e, _⟩, _, _ => ⟨_, e⟩
  | .dic _ _, _, _, ⟨_, _, e, _⟩, _, _ => ⟨_, e⟩
  | .dkt _, _, _, ⟨_, e, _⟩, _, _ => ⟨_, e⟩
  | .obj _ _ _, _, _, ⟨_, _, _, _, e, _⟩, _, _ => ⟨_, e⟩
  | .bag as ts, _, _, _, _, n => absurd rfl (n as ts)
  | .tup _, _, _, ⟨_, _, _, e, _⟩, _, _ => ⟨_, e⟩
  | .dct _ _, _, _, ⟨_, _, _, e, _⟩, _, _ => ⟨_, e⟩
theorem Stt.live (h : Stt C w H (t :: ρ) (v :: σ)) (n : t ≠ .dead) (nb : ∀ as ts, t ≠ .bag as ts) : ∃ y, v = some y := by
  obtain ⟨F, ⟨v0, r, f1, f2, e, h1, h2, rfl⟩, nd, out, tr, tb⟩ := h
  injection e with e1 e2
  subst e1; subst e2
  exact RT_live h1 n nb
theorem se_var (i : Nat) {x : Str} {pos : Pos} (hN : X.N[i]? = some x := by rfl) (hv : Vis X.env.scope x := by first | exact Or.inl rfl | exact Or.inr (Or.inl rfl) | exact Or.inr (Or.inr rfl)) (hd : (x == ("__debug__" : Str)) = false := by decide)
    (hcd : (x == ("__classdict__" : Str)) = false := by decide) : SE X ca W (.Name x pos) (dVar i) := ⟨PE.imp (pe_var hN hv hd hcd) fun σ H Q h => by
  obtain ⟨w, ρ, S, k⟩ := h
  unfold dVar at k
  cases e : ρ[i]? with
  | none => simp only [e] at k; exact k.elim
  | some t =>
    simp only [e] at k
    cases ef : t.frz with
    | none => simp only [ef] at k; exact k.elim
    | some p =>
      obtain ⟨b, d⟩ := p
      simp only [ef] at k
      obtain ⟨w', x, hx, A, S'⟩ := S.share e ef
      exact ⟨x, hx, k w' H x A S'⟩⟩
theorem se_move (i : Nat) {x : Str} {pos : Pos} (hN : X.N[i]? = some x := by rfl) (hv : Vis X.env.scope x := by first | exact Or.inl rfl | exact Or.inr (Or.inl rfl) | exact Or.inr (Or.inr rfl)) (hd : (x == ("__debug__" : Str)) = false := by decide)
    (hcd : (x == ("__classdict__" : Str)) = false := by decide) : SE X ca W (.Name x pos) (dMove i) := ⟨PE.imp (pe_var hN hv hd hcd) fun σ H Q h => by
  obtain ⟨w, ρ, S, k⟩ := h
  unfold dMove at k
  cases e : ρ[i]? with
  | none => simp only [e] at k; exact k.elim
  | some t =>
    obtain ⟨v, hv', S'⟩ := S.move e
    have fin : t ≠ .dead → (∀ as ts, t ≠ .bag as ts) → kE ⟨X.K, ca⟩ W w H σ Q (.ok t (ρ.set i .dead)) → tVar i σ H Q := fun n nb k => by
      obtain ⟨y, rfl⟩ := S'.live n nb
      exact ⟨y, hv', k w H y .refl S'⟩
    cases t with
    | dead => simp only [e] at k; exact k.elim
    | imm b d => simp only [e] at k; exact fin (by simp) (by simp) k
    | lstI ds => simp only [e] at k; exact fin (by simp) (by simp) k
    | lst ts => simp only [e] at k; exact fin (by simp) (by simp) k
    | dicI ks ds => simp only [e] at k; exact fin (by simp) (by simp) k
    | dic ks ts => simp only [e] at k; exact fin (by simp) (by simp) k
    | dkt ks => simp only [e] at k; exact fin (by simp) (by simp) k
    | obj c ns ts => simp only [e] at k; exact fin (by simp) (by simp) k
    | bag as ts => simp only [e] at k; exact k.elim
    | tup ts => simp only [e] at k; exact fin (by simp) (by simp) k
    | dct ks ts => simp only [e] at k; exact fin (by simp) (by simp) k⟩
theorem constE {d : D} {y : V} {Q : VK} (h : tE C W (dC d) σ H Q) (r : ∀ (H : Hp) (A : Addr → Prop), RD C H A d y) : Q y H := by
  obtain ⟨w, ρ, S, k⟩ := h
  exact k w H y .refl (S.cons_imm (r _ _))
theorem se_int {i : Int} {j : Nat} {pos : Pos} : SE X ca W (.Constant (.int i) j pos) (dC (.int i)) := ⟨PE.imp pe_int fun σ H Q h => constE h fun _ _ => rfl⟩
theorem se_bl {b : Bool} {j : Nat} {pos : Pos} : SE X ca W (.Constant (.bool b) j pos) (dC (.bl b)) := ⟨PE.imp pe_bl fun σ H Q h => constE h fun _ _ => rfl⟩
theorem se_non {j : Nat} {pos : Pos} : SE X ca W (.Constant .none j pos) (dC .non) := ⟨PE.imp pe_non fun σ H Q h => constE h fun _ _ => rfl⟩
theorem se_str {s : Str} {j : Nat} {pos : Pos} : SE X ca W (.Constant (.str s) j pos) (dC (.str s)) := ⟨PE.imp pe_str fun σ H Q h => constE h fun _ _ => rfl⟩
theorem se_gint {x : Str} {i : Int} {t : Tok} {pos : Pos} (hm : X.mg x = some (.int i t)) (hg : Gl X x := by rfl) (hd : (x == ("__debug__" : Str)) = false := by decide) : SE X ca W (.Name x pos) (dC (.int i)) := ⟨PE.imp (pe_glob (v := .int i) hg hm ⟨t, rfl⟩ hd) fun σ H Q h => constE h fun _ _ => rfl⟩
theorem se_fr {e : Expr} {de : DE} (h : SE X ca W e de) : SE X ca W e (dFr de) := ⟨PE.imp h.pe fun σ H Q q => by
  obtain ⟨w, ρ, S, k⟩ := q
  refine ⟨w, ρ, S, ?_⟩
  unfold dFr at k
  cases e : de ρ with
  | bad => simp only [e] at k; exact k
  | exc x ρ1 => simp only [e] at k; exact k
  | ok t ρ1 =>
    simp only [e, ER.bind] at k
    intro w1 H1 v A1 S1
    cases ef : t.frz with
    | none => simp only [ef] at k; exact k.elim
    | some p =>
      obtain ⟨b, d⟩ := p
      simp only [ef] at k
      obtain ⟨w2, A2, S2⟩ := S1.freeze ef
      exact k w2 H1 v (A1.trans A2) S2⟩

/-! operators -/
def OpS (X : Cx) (ca : Cad) (W : WX) (fop : Value → Value → Sem Value) (f : T → T → DE) : Prop :=
  ∃ r : R2, OpR X fop r ∧ ∀ w H σ Q x y ρ v u, Stt ⟨X.K, ca⟩ w H (x :: y :: ρ) (some v :: some u :: σ) → kE ⟨X.K, ca⟩ W w H σ Q (f x y ρ) → r v u H Q
theorem se_bin {a b : Expr} {op : Operator} {f : T → T → DE} {da db : DE} {pos : Pos} (o : OpS X ca W (binaryOp op) f) (ha : SE X ca W a da) (hb : SE X ca W b db) : SE X ca W (.BinOp a op b pos) (d2 f da db) := by
  obtain ⟨r, hr, h⟩ := o
  exact ⟨PE.imp (pe_op hr ha.pe hb.pe) fun σ H Q q => two q fun w H x y ρ v u S k => h w H σ Q x y ρ v u S k⟩
theorem se_cmp {a b : Expr} {op : CmpOp} {f : T → T → DE} {da db : DE} {pos : Pos} (o : OpS X ca W (compareOp op) f) (ha : SE X ca W a da) (hb : SE X ca W b db) (hm : behindInMarks op b = false := by first | exact nomark _ | rfl) : SE X ca W (.Compare a [op] [b] pos) (d2 f da db) := by
  obtain ⟨r, hr, h⟩ := o
  exact ⟨PE.imp (pe_cmpR hr ha.pe hb.pe hm) fun σ H Q q => two q fun w H x y ρ v u S k => h w H σ Q x y ρ v u S k⟩
theorem two_val {f : T → T → DE} {da db : DE} {r : R2} {Q : Bool → Hp → Prop} (h : tT C W (dtVal (d2 f da db)) σ H Q) (hr : ∀ w H σ Q x y ρ v u, Stt C w H (x :: y :: ρ) (some v :: some u :: σ) → kE C W w H σ Q (f x y ρ) → r v u H Q) :
    tTest (tOp r (tE C W da) (tE C W db)) σ H Q := two (val_of h) fun w H x y ρ v u S k => hr w H σ _ x y ρ v u S k
theorem st_cmp {a b : Expr} {op : CmpOp} {f : T → T → DE} {da db : DE} {pos : Pos} (o : OpS X ca W (compareOp op) f) (ha : SE X ca W a da) (hb : SE X ca W b db) (hm : behindInMarks op b = false := by first | exact nomark _ | rfl) : ST X ca W (.Compare a [op] [b] pos) (dtVal (d2 f da db)) := by
  obtain ⟨r, hr, h⟩ := o
  exact ⟨PT.imp (pt_cmpR hr ha.pe hb.pe hm) fun σ H Q q => two_val q h⟩
/-- scalars in, a scalar out -/
def fS (g : D → D → Option D) : T → T → DE := fun x y ρ => match x, y with
  | .imm _ d, .imm _ e => match g d e with
    | some r => .ok (.imm false r) ρ
    | none => .bad
  | _, _ => .bad
theorem ok_scal {d : D} {y : V} {Q : VK} {τ τ' : T} {v u : V} (S : Stt C w H (τ :: τ' :: ρ) (some v :: some u :: σ)) (k : kE C W w H σ Q (.ok (.imm false d) ρ)) (r : RD C H (w.im false) d y) : Q y H :=
  k w H y .refl (S.drop.drop.cons_imm r)
def gInt (f : Int → Int → Option Int) : D → D → Option D
  | .int i, .int j => (f i j).map D.int
  | _, _ => none
theorem ops_int {fop : Value → Value → Sem Value} {f : Int → Int → Option Int} {Cc : Int → Int → Prop} {g : Int → Int → Int} (ho : OpR X fop (rI Cc fun i j => .int (g i j))) (hf : ∀ i j z, f i j = some z → Cc i j ∧ z = g i j) : OpS X ca W fop (fS (gInt f)) := by
  refine ⟨_, ho, fun w H σ Q x y ρ v u S k => ?_⟩
  unfold fS at k
  split at k
  · rename_i b d c e
    cases eg : gInt f d e with
    | none => simp only [eg] at k; exact k.elim
    | some r =>
      simp only [eg] at k
      unfold gInt at eg
      split at eg
      · rename_i i j
        cases ez : f i j with
        | none => simp [ez] at eg
        | some z =>
          simp [ez] at eg
          subst eg
          obtain ⟨hc, rfl⟩ := hf i j z ez
          have e1 := S.head_int
          have e2 := S.drop.head_int
          subst e1; subst e2
          exact ⟨i, j, rfl, rfl, hc, ok_scal S k rfl⟩
      · cases eg
  · exact k.elim
def small (i : Int) : Bool := decide (-18446744073709551616 < i ∧ i < 18446744073709551616)
def B200 : Int := 10 ^ 200
def mid (i : Int) : Bool := decide (-B200 < i ∧ i < B200)
def mulI (i j : Int) : Option Int := if small i || small j || (mid i && mid j) then some (i * j) else none
def divI (i j : Int) : Option Int := if decide (0 < j) && mid j then some (i / j) else none
def modI (i j : Int) : Option Int := if decide (0 < j) then some (i % j) else if decide (j < 0) then some (i.fmod j) else none
def powI (i j : Int) : Option Int := if decide (0 ≤ j) && decide (j ≤ 1000000) && small i then some (i ^ j.toNat) else none
def shlI (i j : Int) : Option Int := if decide (0 ≤ j) && decide (j ≤ 100000) && mid i then some (i * 2 ^ j.toNat) else none
def shrI (i j : Int) : Option Int := if decide (0 ≤ j) then some (i / 2 ^ j.toNat) else none
theorem mid_bits {i : Int} (h : mid i = true) : i.natAbs < 2 ^ 665 := by
  unfold mid at h
  have h := of_decide_eq_true h
  have e : B200 ≤ ((2 ^ 665 : Nat) : Int) := by unfold B200; decide +kernel
  have : (i.natAbs : Int) < ((2 ^ 665 : Nat) : Int) := by omega
  exact Int.ofNat_lt.mp this
theorem ops_sub : OpS X ca W (binaryOp .Sub) (fS (gInt fun i j => some (i - j))) := ops_int (Cc := fun _ _ => True) (g := fun i j => i - j) (by
  intro pins s σ H x y v u Q I rx ry h
  obtain ⟨i, j, e1, e2, _, q⟩ := h
  exact op_sub pins s σ H x y v u Q I rx ry ⟨i, j, e1, e2, q⟩) fun i j z h => ⟨trivial, by simpa using h.symm⟩
theorem ops_mod : OpS X ca W (binaryOp .Mod) (fS (gInt modI)) := ops_int (Cc := fun _ j => j ≠ 0) (g := fun i j => i.fmod j) op_modN fun i j z h => by
  unfold modI at h
  split at h
  · rename_i hj
    have hj := of_decide_eq_true hj
    cases h
    exact ⟨by omega, (Int.fmod_eq_emod_of_nonneg i (by omega)).symm⟩
  · split at h
    · rename_i hj
      have hj := of_decide_eq_true hj
      cases h
      exact ⟨by omega, rfl⟩
    · cases h
theorem ops_div : OpS X ca W (binaryOp .FloorDiv) (fS (gInt divI)) := ops_int (g := fun i j => i / j) op_fdivW fun i j z h => by
  unfold divI at h
  split at h
  · rename_i hj
    rw [Bool.and_eq_true] at hj
    cases h
    exact ⟨wide_div (of_decide_eq_true hj.1) (mid_bits hj.2) (by decide) (by decide), rfl⟩
  · cases h
theorem OpR.imp {fop : Value → Value → Sem Value} {r r' : R2} (h : OpR X fop r) (i : ∀ x y H Q, r' x y H Q → r x y H Q) : OpR X fop r' := fun pins s σ H x y v u Q I rx ry q => h pins s σ H x y v u Q I rx ry (i x y H Q q)
theorem ops_pow : OpS X ca W (binaryOp .Pow) (fS (gInt powI)) := ops_int (g := fun i j => i ^ j.toNat) op_pow fun i j z h => by
  unfold powI at h
  split at h
  · rename_i hj
    rw [Bool.and_eq_true, Bool.and_eq_true] at hj
    obtain ⟨⟨h1, h2⟩, h3⟩ := hj
    cases h
    refine ⟨⟨of_decide_eq_true h1, of_decide_eq_true h2, ?_⟩, rfl⟩
    have h3 := of_decide_eq_true h3
    omega
  · cases h
theorem ops_shl : OpS X ca W (binaryOp .LShift) (fS (gInt shlI)) := ops_int (g := fun i j => i * 2 ^ j.toNat) op_shlW fun i j z h => by
  unfold shlI at h
  split at h
  · rename_i hj
    rw [Bool.and_eq_true, Bool.and_eq_true] at hj
    obtain ⟨⟨h1, h2⟩, h3⟩ := hj
    cases h
    have h1 := of_decide_eq_true h1
    have h2 := of_decide_eq_true h2
    refine ⟨?_, rfl⟩
    have := shl_ok (j := j.toNat) (mid_bits h3) (by omega)
    rwa [Int.toNat_of_nonneg h1] at this
  · cases h
theorem ops_i0 {op : Value → Value → Sem Value} {g : Int → Int → Int} (ho : OpR X op (rI0 fun i j => .int (g i j))) : OpS X ca W op (fS (gInt fun i j => some (g i j))) := ops_int (Cc := fun _ _ => True) (g := g) (OpR.imp ho fun x y H Q ⟨i, j, e1, e2, _, q⟩ => ⟨i, j, e1, e2, q⟩) fun i j z h => ⟨trivial, by simpa using h.symm⟩
theorem ops_or : OpS X ca W (binaryOp .BitOr) (fS (gInt fun i j => some (Builtin.bitOr i j))) := ops_i0 op_or
/-- + and *: of ints, texts, lists, tuples -/
def fAdd : T → T → DE := fun x y ρ => match x, y with
  | .imm _ (.int i), .imm _ (.int j) => .ok (.imm false (.int (i + j))) ρ
  | .imm _ (.str a), .imm _ (.str b) => if a.length + b.length ≤ sizeLine then .ok (.imm false (.str (a ++ b))) ρ else .bad
  | .imm false (.lst a), .imm false (.lst b) => if a.length + b.length ≤ sizeLine then .ok (.lstI (a ++ b)) ρ else .bad
  | .imm b (.tup xs), .imm c (.tup ys) => if xs.length + ys.length ≤ sizeLine then .ok (.imm (b || c) (.tup (xs ++ ys))) ρ else .bad
  | _, _ => .bad
theorem im_or1 {b c : Bool} : ∀ a, w.im b a → w.im (b || c) a ∧ H a = H a := fun a z => ⟨z.elim .inl fun z => .inr ⟨by simp [z.1], z.2⟩, rfl⟩
theorem im_or2 {b c : Bool} : ∀ a, w.im c a → w.im (b || c) a ∧ H a = H a := fun a z => ⟨z.elim .inl fun z => .inr ⟨by simp [z.1], z.2⟩, rfl⟩
/-- a new tuple of shared things, shared at once -/
theorem Stt.newT {p : Addr} {b : Bool} {ds : List D} {vs : List V} (h : Stt C w H ρ σ) (r : RDs C H (w.im b) ds vs) (hp : H p = none) : ∃ w', After w H w' (upd H p (.tup vs)) ∧ Stt C w' (upd H p (.tup vs)) (.imm b (.tup ds) :: ρ) (some (.ref p) :: σ) := by
  obtain ⟨A, S⟩ := h.newI (o := .tup vs) hp
  exact ⟨_, A, S.cons_imm ⟨p, vs, rfl, ⟨.inl (.inr rfl), upd_same⟩, RDs_mono A.im _ _ r⟩⟩
theorem ops_add : OpS X ca W (binaryOp .Add) fAdd := by
  refine ⟨_, (op_add.or op_add_str).or (op_cat.or op_catA), fun w H σ Q x y ρ v u S k => ?_⟩
  unfold fAdd at k
  split at k
  · rename_i fb i fc j
    have e1 := S.head_int
    have e2 := S.drop.head_int
    subst e1; subst e2
    exact .inl (.inl ⟨i, j, rfl, rfl, ok_scal S k rfl⟩)
  · rename_i fb a fc b
    obtain ⟨x', ex, r⟩ := S.head_imm
    cases ex
    obtain ⟨y', ey, r2⟩ := S.drop.head_imm
    cases ey
    split at k
    · rename_i hl
      exact .inl (.inr ⟨a, b, r, r2, hl, ok_scal S k rfl⟩)
    · exact k.elim
  · rename_i a b
    obtain ⟨x', ex, p, vs, e1, ⟨l1, l2⟩, rd⟩ := S.head_imm
    cases ex
    obtain ⟨y', ey, q, us, e2, ⟨m1, m2⟩, re⟩ := S.drop.head_imm
    cases ey
    split at k
    · rename_i hl
      refine .inr (.inl ⟨p, q, vs, us, e1, e2, l2, m2, by rw [← rd.length, ← re.length]; exact hl, fun n hn => ?_⟩)
      obtain ⟨A, S'⟩ := S.drop.drop.newL (ds := a ++ b) (vs := vs ++ us) (RDs.append (RDs_mono (fun a z => ⟨im_false z, rfl⟩) _ _ rd) (RDs_mono (fun a z => ⟨im_false z, rfl⟩) _ _ re)) hn
      exact k w _ _ A S'
    · exact k.elim
  · rename_i b xs c ys
    obtain ⟨x', ex, p, vs, e1, ⟨l1, l2⟩, rd⟩ := S.head_imm
    cases ex
    obtain ⟨y', ey, q, us, e2, ⟨m1, m2⟩, re⟩ := S.drop.head_imm
    cases ey
    split at k
    · rename_i hl
      refine .inr (.inr ⟨p, q, vs, us, e1, e2, .of l2, .of m2, by rw [← rd.length, ← re.length]; exact hl, fun hx => ?_, fun hx hy => ?_, fun hx hy n hn => ?_⟩)
      · subst hx
        have e : xs = [] := List.length_eq_zero_iff.mp (by rw [rd.length]; rfl)
        subst e
        exact k w H _ .refl (S.drop.drop.cons_imm ⟨q, us, rfl, ⟨(im_or2 (H := H) _ m1).1, m2⟩, RDs_mono im_or2 _ _ re⟩)
      · subst hy
        have e : ys = [] := List.length_eq_zero_iff.mp (by rw [re.length]; rfl)
        subst e
        refine k w H _ .refl (S.drop.drop.cons_imm ⟨p, vs, rfl, ⟨(im_or1 (H := H) _ l1).1, l2⟩, ?_⟩)
        rw [List.append_nil]
        exact RDs_mono im_or1 _ _ rd
      · obtain ⟨w', A, S'⟩ := S.drop.drop.newT (ds := xs ++ ys) (vs := vs ++ us) (RDs.append (RDs_mono im_or1 _ _ rd) (RDs_mono im_or2 _ _ re)) hn
        exact k w' _ _ A S'
    · exact k.elim
  · exact k.elim
def fMul : T → T → DE := fun x y ρ => match x, y with
  | .imm _ (.int i), .imm _ (.int j) => match mulI i j with
    | some z => .ok (.imm false (.int z)) ρ
    | none => .bad
  | .imm false (.lst a), .imm _ (.int n) => if decide (-16777216 < n) && decide (n < 16777216) && decide (a.length * n.toNat ≤ sizeLine) then .ok (.lstI (List.replicate n.toNat a).flatten) ρ else .bad
  | _, _ => .bad
theorem RDs.rep {A : Addr → Prop} {ds : List D} {vs : List V} (r : RDs C H A ds vs) : ∀ n : Nat, RDs C H A (List.replicate n ds).flatten (List.replicate n vs).flatten
  | 0 => by simp [RDs]
  | n + 1 => by
    simp only [List.replicate_succ, List.flatten_cons]
    exact RDs.append r (RDs.rep r n)
theorem ops_mul : OpS X ca W (binaryOp .Mult) fMul := by
  refine ⟨_, (op_mul.or op_mulW).or op_rep, fun w H σ Q x y ρ v u S k => ?_⟩
  unfold fMul at k
  split at k
  · rename_i fb i fc j
    have e1 := S.head_int
    have e2 := S.drop.head_int
    subst e1; subst e2
    cases em : mulI i j with
    | none => simp only [em] at k; exact k.elim
    | some z =>
      simp only [em] at k
      unfold mulI at em
      split at em
      · rename_i hc
        cases em
        simp only [Bool.or_eq_true, Bool.and_eq_true] at hc
        rcases hc with (hc | hc) | hc
        · have hc := of_decide_eq_true hc
          exact .inl (.inl ⟨i, j, rfl, rfl, .inl ⟨by omega, by omega⟩, ok_scal S k rfl⟩)
        · have hc := of_decide_eq_true hc
          exact .inl (.inl ⟨i, j, rfl, rfl, .inr ⟨by omega, by omega⟩, ok_scal S k rfl⟩)
        · exact .inl (.inr ⟨i, j, rfl, rfl, wide_mul (mid_bits hc.1) (mid_bits hc.2) (by decide) (by decide) (by decide), ok_scal S k rfl⟩)
      · cases em
  · rename_i a fc n
    obtain ⟨x', ex, p, vs, e1, ⟨l1, l2⟩, rd⟩ := S.head_imm
    cases ex
    have e2 := S.drop.head_int
    subst e2
    split at k
    · rename_i hc
      simp only [Bool.and_eq_true, decide_eq_true_eq] at hc
      refine .inr ⟨p, n, vs, e1, rfl, l2, by omega, by omega, by rw [← rd.length]; exact hc.2, fun q hq => ?_⟩
      obtain ⟨A, S'⟩ := S.drop.drop.newL (ds := (List.replicate n.toNat a).flatten) (vs := (List.replicate n.toNat vs).flatten) (RDs.rep (RDs_mono (fun a z => ⟨im_false z, rfl⟩) _ _ rd) _) hq
      exact k w _ _ A S'
    · exact k.elim
  · exact k.elim
def gCmp (p : Int → Int → Bool) : D → D → Option D
  | .int i, .int j => some (.bl (p i j))
  | _, _ => none
theorem ops_cmp {op : Value → Value → Sem Value} {p : Int → Int → Bool} (ho : OpR X op (rI0 fun i j => .bl (p i j))) : OpS X ca W op (fS (gCmp p)) := by
  refine ⟨_, ho, fun w H σ Q x y ρ v u S k => ?_⟩
  unfold fS at k
  split at k
  · rename_i b d c e
    cases eg : gCmp p d e with
    | none => simp only [eg] at k; exact k.elim
    | some r =>
      simp only [eg] at k
      unfold gCmp at eg
      split at eg
      · rename_i i j
        cases eg
        have e1 := S.head_int
        have e2 := S.drop.head_int
        subst e1; subst e2
        exact ⟨i, j, rfl, rfl, ok_scal S k rfl⟩
      · cases eg
  · exact k.elim
theorem ops_lt : OpS X ca W (compareOp .Lt) (fS (gCmp fun i j => decide (i < j))) := ops_cmp op_lt
theorem ops_le : OpS X ca W (compareOp .LtE) (fS (gCmp fun i j => decide (i ≤ j))) := ops_cmp op_le
theorem ops_gt : OpS X ca W (compareOp .Gt) (fS (gCmp fun i j => decide (j < i))) := ops_cmp op_gt
/-! equality of plain data -/
mutual
def D.py : D → Option PyData
  | .non => some .none
  | .bl b => some (.bool b)
  | .int i => some (.int i)
  | .str s => some (.str s)
  | .lst xs => match D.pys xs with | some ys => some (.list ys) | none => none
  | .tup xs => match D.pys xs with | some ys => some (.tuple ys) | none => none
  | .scr ns => some (.list (ns.map PyData.int))
  | .ty _ | .dic _ _ | .obj _ _ _ | .exn _ _ _ _ | .exv _ _ _ => none
def D.pys : List D → Option (List PyData)
  | [] => some []
  | d :: ds => match d.py, D.pys ds with
    | some p, some ps => some (p :: ps)
    | _, _ => none
end
mutual
theorem RD_py {A : Addr → Prop} : (d : D) → (v : V) → (p : PyData) → RD C H A d v → d.py = some p → Dp C.K H v p
  | .non, v, p, r, e => by
    cases e; cases (show v = .non from r); exact .non
  | .bl b, v, p, r, e => by
    cases e; cases (show v = .bl b from r); exact .bl b
  | .int i, v, p, r, e => by
    cases e; cases (show v = .int i from r); exact .int i
  | .str s, v, p, r, e => by
    cases e; cases (show v = .str s from r); exact .str s
  | .lst xs, v, p, r, e => by
    obtain ⟨a, vs, rfl, ⟨l1, l2⟩, rd⟩ := r
    unfold D.py at e
    cases q : D.pys xs with
    | none => simp [q] at e
    | some ys =>
      simp [q] at e
      subst e
      exact .lst (.of l2) (RDs_py xs vs ys rd q)
  | .tup xs, v, p, r, e => by
    obtain ⟨a, vs, rfl, ⟨l1, l2⟩, rd⟩ := r
    unfold D.py at e
    cases q : D.pys xs with
    | none => simp [q] at e
    | some ys =>
      simp [q] at e
      subst e
      exact .tup (.of l2) (RDs_py xs vs ys rd q)
  | .scr ns, v, p, r, e => by
    obtain ⟨a, rfl, l⟩ := r
    cases e
    refine .lst l.sq ?_
    clear l
    induction ns with
    | nil => exact .nil
    | cons n ns ih => exact .cons (.int n) ih
  | .ty _, _, _, _, e => by cases e
  | .dic _ _, _, _, _, e => by cases e
  | .obj _ _ _, _, _, _, e => by cases e
  | .exn _ _ _ _, _, _, _, e => by cases e
  | .exv _ _ _, _, _, _, e => by cases e
theorem RDs_py {A : Addr → Prop} : (ds : List D) → (vs : List V) → (ps : List PyData) → RDs C H A ds vs → D.pys ds = some ps → DpAll C.K H vs ps
  | [], vs, ps, r, e => by
    cases (show vs = [] from r)
    cases e
    exact .nil
  | d :: ds, vs, ps, r, e => by
    obtain ⟨v, r, rfl, h1, h2⟩ := r
    unfold D.pys at e
    cases q1 : d.py with
    | none => simp [q1] at e
    | some p1 =>
      cases q2 : D.pys ds with
      | none => simp [q1, q2] at e
      | some p2 =>
        simp [q1, q2] at e
        subst e
        exact .cons (RD_py d v p1 h1 q1) (RDs_py ds r p2 h2 q2)
end
def D.eqv (d e : D) : Option Bool := match d.py, e.py with
  | some p, some q => if SeqAt.shaped p && SeqAt.shaped q then some (PyData.eqv p q) else none
  | _, _ => none
def gEq : D → D → Option D
  | .str s, .str t => some (.bl (decide (s = t)))
  | d, e => (d.eqv e).map D.bl
def gNe : D → D → Option D
  | .str s, .str t => some (.bl (!decide (s = t)))
  | d, e => (d.eqv e).map fun b => D.bl (!b)
theorem dec_V {s t : Str} : decide (V.str s = V.str t) = decide (s = t) := by
  rw [Bool.eq_iff_iff]
  simp
theorem gEq_way (d e : D) : (∃ s t, d = .str s ∧ e = .str t) ∨ gEq d e = (d.eqv e).map D.bl := by
  cases d <;> cases e <;> first | exact .inl ⟨_, _, rfl, rfl⟩ | exact .inr rfl
theorem gNe_way (d e : D) : (∃ s t, d = .str s ∧ e = .str t) ∨ gNe d e = (d.eqv e).map fun b => D.bl (!b) := by
  cases d <;> cases e <;> first | exact .inl ⟨_, _, rfl, rfl⟩ | exact .inr rfl
theorem eqv_inv {d e : D} {b : Bool} (h : d.eqv e = some b) : ∃ p q, d.py = some p ∧ e.py = some q ∧ SeqAt.shaped p = true ∧ SeqAt.shaped q = true ∧ b = PyData.eqv p q := by
  unfold D.eqv at h
  split at h
  · rename_i p q hp hq
    split at h
    · rename_i hs
      rw [Bool.and_eq_true] at hs
      cases h
      exact ⟨p, q, hp, hq, hs.1, hs.2, rfl⟩
    · cases h
  · cases h
theorem ops_eq (hu : X.A.units + 64 < cLine) : OpS X ca W (compareOp .Eq) (fS gEq) := by
  refine ⟨_, OpR.or op_eq (op_eqD hu), fun w H σ Q x y ρ v u S k => ?_⟩
  unfold fS at k
  split at k
  · rename_i b d c e
    obtain ⟨x', ex, r1⟩ := S.head_imm
    cases ex
    obtain ⟨y', ey, r2⟩ := S.drop.head_imm
    cases ey
    rcases gEq_way d e with ⟨s, t, rfl, rfl⟩ | ge
    · have r1 : _ = V.str s := r1
      have r2 : _ = V.str t := r2
      subst r1
      subst r2
      refine .inl ⟨rfl, ?_⟩
      rw [dec_V]
      exact ok_scal S k rfl
    · rw [ge] at k
      refine .inr ?_
      cases q : d.eqv e with
      | none => simp only [q, Option.map_none] at k; exact k.elim
      | some z =>
        simp only [q, Option.map_some] at k
        obtain ⟨p, p', e1, e2, s1, s2, rfl⟩ := eqv_inv q
        exact ⟨p, p', RD_py _ _ _ r1 e1, RD_py _ _ _ r2 e2, s1, s2, ok_scal S k rfl⟩
  · exact k.elim
theorem ops_ne (hu : X.A.units + 64 < cLine) : OpS X ca W (compareOp .NotEq) (fS gNe) := by
  refine ⟨_, OpR.or op_ne (op_neD hu), fun w H σ Q x y ρ v u S k => ?_⟩
  unfold fS at k
  split at k
  · rename_i b d c e
    obtain ⟨x', ex, r1⟩ := S.head_imm
    cases ex
    obtain ⟨y', ey, r2⟩ := S.drop.head_imm
    cases ey
    rcases gNe_way d e with ⟨s, t, rfl, rfl⟩ | ge
    · have r1 : _ = V.str s := r1
      have r2 : _ = V.str t := r2
      subst r1
      subst r2
      refine .inl ⟨rfl, ?_⟩
      rw [dec_V]
      exact ok_scal S k rfl
    · rw [ge] at k
      refine .inr ?_
      cases q : d.eqv e with
      | none => simp only [q, Option.map_none] at k; exact k.elim
      | some z =>
        simp only [q, Option.map_some] at k
        obtain ⟨p, p', e1, e2, s1, s2, rfl⟩ := eqv_inv q
        exact ⟨p, p', RD_py _ _ _ r1 e1, RD_py _ _ _ r2 e2, s1, s2, ok_scal S k rfl⟩
  · exact k.elim
/-! is None, is True -/
def D.isNon : D → Bool
  | .non => true
  | _ => false
theorem RD.isNon {A : Addr → Prop} : ∀ {d : D} {v : V}, RD C H A d v → decide (v = .non) = d.isNon
  | .non, v, r => by cases (show v = .non from r); rfl
  | .bl b, v, r => by cases (show v = .bl b from r); rfl
  | .int b, v, r => by cases (show v = .int b from r); rfl
  | .str b, v, r => by cases (show v = .str b from r); rfl
  | .ty b, v, r => by cases (show v = .ty b from r); rfl
  | .lst _, v, r => by obtain ⟨a, vs, rfl, _⟩ := r; rfl
  | .tup _, v, r => by obtain ⟨a, vs, rfl, _⟩ := r; rfl
  | .scr _, v, r => by obtain ⟨a, rfl, _⟩ := r; rfl
  | .dic _ _, v, r => by obtain ⟨a, vs, rfl, _⟩ := r; rfl
  | .obj _ _ _, v, r => by obtain ⟨a, dx, fs, rfl, _⟩ := r; rfl
  | .exn _ _ _ _, v, r => by obtain ⟨rfl, _⟩ := r; rfl
  | .exv _ _ _, v, r => by obtain ⟨a, o, d, rfl, _⟩ := r; rfl
def gIs : D → D → Option D
  | d, .non => some (.bl d.isNon)
  | .bl a, .bl b => some (.bl (a == b))
  | _, _ => none
def gIsNot : D → D → Option D
  | d, .non => some (.bl (!d.isNon))
  | .bl a, .bl b => some (.bl (!(a == b)))
  | _, _ => none
theorem ops_is : OpS X ca W (compareOp .Is) (fS gIs) := by
  refine ⟨_, op_isN.or op_is_bl, fun w H σ Q x y ρ v u S k => ?_⟩
  unfold fS at k
  split at k
  · rename_i b d c e
    obtain ⟨x', ex, r1⟩ := S.head_imm
    cases ex
    obtain ⟨y', ey, r2⟩ := S.drop.head_imm
    cases ey
    unfold gIs at k
    split at k
    · rename_i r hr
      split at hr
      · cases hr
        exact .inl ⟨r2, by rw [r1.isNon]; exact ok_scal S k rfl⟩
      · rename_i p q
        cases hr
        exact .inr ⟨p, q, r1, r2, by rw [← Bool.beq_eq_decide_eq]; exact ok_scal S k rfl⟩
      · cases hr
    · exact k.elim
  · exact k.elim
theorem ops_isnot : OpS X ca W (compareOp .IsNot) (fS gIsNot) := by
  refine ⟨_, op_notN.or op_isnot_bl, fun w H σ Q x y ρ v u S k => ?_⟩
  unfold fS at k
  split at k
  · rename_i b d c e
    obtain ⟨x', ex, r1⟩ := S.head_imm
    cases ex
    obtain ⟨y', ey, r2⟩ := S.drop.head_imm
    cases ey
    unfold gIsNot at k
    split at k
    · rename_i r hr
      split at hr
      · cases hr
        exact .inl ⟨r2, by rw [r1.isNon]; exact ok_scal S k rfl⟩
      · rename_i p q
        cases hr
        exact .inr ⟨p, q, r1, r2, by rw [← Bool.beq_eq_decide_eq]; exact ok_scal S k rfl⟩
      · cases hr
    · exact k.elim
  · exact k.elim
end
end Gb

namespace Gb
open PySem PySem.Spec L2
section
variable {C : Ct} {W : WX} {pn ch : List Nat} {w w' : Wd} {H H' : Hp} {σ σ' : L2.St} {En : Ends} {X : Cx} {ca : Cad} {ρ : List T} {t u : T} {v x : Option V}
/-! one operand -/
def UnS (X : Cx) (ca : Cad) (W : WX) (fop : Value → Sem Value) (f : T → DE) : Prop :=
  ∃ r : V → Hp → VK → Prop, UnR X fop r ∧ ∀ w H σ Q x ρ v, Stt ⟨X.K, ca⟩ w H (x :: ρ) (some v :: σ) → kE ⟨X.K, ca⟩ W w H σ Q (f x ρ) → r v H Q
theorem se_un {a : Expr} {op : UnaryOp} {f : T → DE} {da : DE} {pos : Pos} (o : UnS X ca W (unaryOp op) f) (ha : SE X ca W a da) : SE X ca W (.UnaryOp op a pos) (d1 f da) := by
  obtain ⟨r, hr, h⟩ := o
  exact ⟨PE.imp (pe_un hr ha.pe) fun σ H Q q => one q fun w H x ρ v S k => h w H σ Q x ρ v S k⟩
def fU (g : Int → Int) : T → DE := fun x ρ => match x with
  | .imm _ (.int i) => .ok (.imm false (.int (g i))) ρ
  | _ => .bad
theorem uns_int {op : Value → Sem Value} {g : Int → Int} (ho : UnR X op (rU fun i => .int (g i))) : UnS X ca W op (fU g) := by
  refine ⟨_, ho, fun w H σ Q x ρ v S k => ?_⟩
  unfold fU at k
  split at k
  · rename_i b i
    have e := S.head_int
    subst e
    exact ⟨i, rfl, k w H _ .refl (S.drop.cons_imm rfl)⟩
  · exact k.elim
theorem uns_neg : UnS X ca W (unaryOp .USub) (fU fun i => -i) := uns_int un_neg
/-! chains -/
def dChain (f f' : T → T → DE) (da db dc : DE) : DE := fun ρ => (da ρ).bind fun x ρ1 => (db ρ1).bind fun y ρ2 => match y with
  | .imm b d => (f x (.imm b d) ρ2).bind fun z ρ3 => match z with
    | .imm _ (.bl true) => (dc ρ3).bind fun z' ρ4 => f' (.imm b d) z' ρ4
    | .imm _ (.bl false) => .ok (.imm false (.bl false)) ρ3
    | _ => .bad
  | _ => .bad
theorem chainT {f f' : T → T → DE} {fop fop' : Value → Value → Sem Value} {da db dc : DE} {r r' : R2} {Q : VK}
    (h : ∀ w H σ Q x y ρ v u, Stt C w H (x :: y :: ρ) (some v :: some u :: σ) → kE C W w H σ Q (f x y ρ) → r v u H Q)
    (h' : ∀ w H σ Q x y ρ v u, Stt C w H (x :: y :: ρ) (some v :: some u :: σ) → kE C W w H σ Q (f' x y ρ) → r' v u H Q)
    (q : tE C W (dChain f f' da db dc) σ H Q) : tChain r r' (tE C W da) (tE C W db) (tE C W dc) σ H Q := by
  refine one (r := fun v H1 Q => tE C W db σ H1 fun u H2 => r v u H2 fun z H3 => ∃ k, z = .bl k ∧ (if k = true then tE C W dc σ H3 fun w' H4 => r' u w' H4 Q else Q (.bl false) H3)) (f := fun x ρ1 => (db ρ1).bind fun y ρ2 => match y with
    | .imm b d => (f x (.imm b d) ρ2).bind fun z ρ3 => match z with
      | .imm _ (.bl true) => (dc ρ3).bind fun z' ρ4 => f' (.imm b d) z' ρ4
      | .imm _ (.bl false) => .ok (.imm false (.bl false)) ρ3
      | _ => .bad
    | _ => .bad) q fun w H x ρ v S k => ?_
  refine aside (g := fun y ρ2 => match y with
    | .imm b d => (f x (.imm b d) ρ2).bind fun z ρ3 => match z with
      | .imm _ (.bl true) => (dc ρ3).bind fun z' ρ4 => f' (.imm b d) z' ρ4
      | .imm _ (.bl false) => .ok (.imm false (.bl false)) ρ3
      | _ => .bad
    | _ => .bad) S k fun w1 H1 y ρ1 u S1 k1 => ?_
  cases y with
  | imm b d =>
    simp only at k1
    obtain ⟨y', ey, ry⟩ : ∃ y', some u = some y' ∧ RD C H1 (w1.im b) d y' := by
      obtain ⟨wt, eI, eB, S2, _⟩ := S1.push
      obtain ⟨y', ey, ry⟩ := S2.head_imm
      refine ⟨y', ey, ?_⟩
      have : wt.im b = w1.im b := by unfold Wd.im; rw [eI, eB]
      rwa [this] at ry
    cases ey
    refine h w1 H1 σ _ x (.imm b d) ρ1 v u S1 ?_
    cases ef : f x (.imm b d) ρ1 with
    | bad => rw [ef] at k1; exact k1
    | exc e ρ2 => rw [ef] at k1; exact k1
    | ok z ρ2 =>
      simp only [ef, ER.bind] at k1
      intro w2 H2 zv A2 S2
      cases z with
      | imm c e =>
        cases e with
        | bl bb =>
          obtain ⟨zv', ez, rz⟩ := S2.head_imm
          cases ez
          have rz : zv = .bl bb := rz
          have S3 : Stt C w2 H2 (.imm b d :: ρ2) (some u :: σ) := S2.drop.cons_imm (RD_mono A2.im _ _ ry)
          cases bb with
          | false => exact ⟨false, rz, by rw [if_neg (by simp)]; exact k1 w2 H2 _ A2 (S2.drop.cons_imm rfl)⟩
          | true =>
            refine ⟨true, rz, ?_⟩
            rw [if_pos rfl]
            simp only at k1
            exact aside (g := fun z' ρ4 => f' (.imm b d) z' ρ4) (R := fun w' H4 => r' u w' H4 Q) S3 (kE.after A2 k1) fun w4 H4 z' ρ4 u4 S4 k4 => h' w4 H4 σ Q _ z' ρ4 u u4 S4 k4
        | _ => exact (show False from k1).elim
      | _ => exact (show False from k1).elim
  | _ => exact (show False from k1).elim
theorem se_chain {a b c : Expr} {op op' : CmpOp} {f f' : T → T → DE} {da db dc : DE} {pos : Pos} (o : OpS X ca W (compareOp op) f) (o' : OpS X ca W (compareOp op') f') (ha : SE X ca W a da) (hb : SE X ca W b db) (hc : SE X ca W c dc) (hm : lastMarks [op, op'] [b, c] = false := by with_unfolding_all rfl) :
    SE X ca W (.Compare a [op, op'] [b, c] pos) (dChain f f' da db dc) := by
  obtain ⟨r, hr, h⟩ := o
  obtain ⟨r', hr', h'⟩ := o'
  exact ⟨PE.imp (pe_chain hr hr' ha.pe hb.pe hc.pe hm) fun σ H Q q => chainT (fop := compareOp op) (fop' := compareOp op') h h' q⟩
theorem st_chain {a b c : Expr} {op op' : CmpOp} {f f' : T → T → DE} {da db dc : DE} {pos : Pos} (o : OpS X ca W (compareOp op) f) (o' : OpS X ca W (compareOp op') f') (ha : SE X ca W a da) (hb : SE X ca W b db) (hc : SE X ca W c dc) (hm : lastMarks [op, op'] [b, c] = false := by with_unfolding_all rfl) :
    ST X ca W (.Compare a [op, op'] [b, c] pos) (dtVal (dChain f f' da db dc)) := by
  obtain ⟨r, hr, h⟩ := o
  obtain ⟨r', hr', h'⟩ := o'
  exact ⟨PT.imp (pt_chain hr hr' ha.pe hb.pe hc.pe hm) fun σ H Q q => chainT (fop := compareOp op) (fop' := compareOp op') h h' (val_of q)⟩

/-! and, or, not as values; a if c else b -/
def dAnd (da db : DE) : DE := fun ρ => (da ρ).bind fun x ρ1 => match x with
  | .imm _ (.bl true) => db ρ1
  | .imm _ (.bl false) => .ok (.imm false (.bl false)) ρ1
  | _ => .bad
def dOr (da db : DE) : DE := fun ρ => (da ρ).bind fun x ρ1 => match x with
  | .imm _ (.bl false) => db ρ1
  | .imm _ (.bl true) => .ok (.imm false (.bl true)) ρ1
  | _ => .bad
theorem se_one {op : BoolOp} {a : Expr} {da : DE} {pos : Pos} (h : SE X ca W a da) : SE X ca W (.BoolOp op [a] pos) da := ⟨pe_one h.pe⟩
theorem se_and {a b : Expr} {rest : List Expr} {da db : DE} {pos : Pos} (ha : SE X ca W a da) (hb : SE X ca W (.BoolOp .And (b :: rest) pos) db) : SE X ca W (.BoolOp .And (a :: b :: rest) pos) (dAnd da db) := ⟨PE.imp (pe_and ha.pe hb.pe) fun σ H Q q =>
  one (r := fun v H1 Q => ∃ c, v = .bl c ∧ if c = true then tE _ W db σ H1 Q else Q (.bl false) H1) q fun w H x ρ v S k => by
    split at k
    · obtain ⟨v', ev, r⟩ := S.head_imm
      cases ev
      exact ⟨true, r, by rw [if_pos rfl]; exact ⟨w, ρ, S.drop, k⟩⟩
    · obtain ⟨v', ev, r⟩ := S.head_imm
      cases ev
      exact ⟨false, r, by rw [if_neg (by simp)]; exact k w H _ .refl (S.drop.cons_imm rfl)⟩
    · exact k.elim⟩
theorem se_or {a b : Expr} {rest : List Expr} {da db : DE} {pos : Pos} (ha : SE X ca W a da) (hb : SE X ca W (.BoolOp .Or (b :: rest) pos) db) : SE X ca W (.BoolOp .Or (a :: b :: rest) pos) (dOr da db) := ⟨PE.imp (pe_or ha.pe hb.pe) fun σ H Q q =>
  one (r := fun v H1 Q => ∃ c, v = .bl c ∧ if c = true then Q (.bl true) H1 else tE _ W db σ H1 Q) q fun w H x ρ v S k => by
    split at k
    · obtain ⟨v', ev, r⟩ := S.head_imm
      cases ev
      exact ⟨false, r, by rw [if_neg (by simp)]; exact ⟨w, ρ, S.drop, k⟩⟩
    · obtain ⟨v', ev, r⟩ := S.head_imm
      cases ev
      exact ⟨true, r, by rw [if_pos rfl]; exact k w H _ .refl (S.drop.cons_imm rfl)⟩
    · exact k.elim⟩
def dNot (da : DE) : DE := d1 (fun x ρ => match x with
  | .imm _ (.bl b) => .ok (.imm false (.bl (!b))) ρ
  | _ => .bad) da
theorem se_not {a : Expr} {da : DE} {pos : Pos} (ha : SE X ca W a da) : SE X ca W (.UnaryOp .Not a pos) (dNot da) := ⟨PE.imp (pe_not ha.pe) fun σ H Q q =>
  one (r := fun v H1 Q => ∃ c, v = .bl c ∧ Q (.bl (!c)) H1) q fun w H x ρ v S k => by
    split at k
    · obtain ⟨v', ev, r⟩ := S.head_imm
      cases ev
      exact ⟨_, r, k w H _ .refl (S.drop.cons_imm rfl)⟩
    · exact k.elim⟩
def dIfE (dc : DT) (da db : DE) : DE := fun ρ => match dc ρ with
  | .ok b ρ1 => if b then da ρ1 else db ρ1
  | .exc e ρ1 => .exc e ρ1
  | .bad => .bad
theorem se_if {c a b : Expr} {dc : DT} {da db : DE} {pos : Pos} (hc : ST X ca W c dc) (ha : SE X ca W a da) (hb : SE X ca W b db) : SE X ca W (.IfExp c a b pos) (dIfE dc da db) := ⟨PE.imp (pe_ifExp hc.pt ha.pe hb.pe) fun σ H Q q => by
  obtain ⟨w, ρ, S, k⟩ := q
  refine ⟨w, ρ, S, ?_⟩
  unfold dIfE at k
  cases e : dc ρ with
  | bad => rw [e] at k; exact k
  | exc x ρ1 => rw [e] at k; exact k
  | ok x ρ1 =>
    rw [e] at k
    intro w1 H1 A1 S1
    cases x with
    | true => exact ⟨w1, ρ1, S1, kE.after A1 k⟩
    | false => exact ⟨w1, ρ1, S1, kE.after A1 k⟩⟩

/-! displays -/
theorem Stt.freezes {ts : List T} {vs : L2.St} {b : Bool} {ds : List D} (h : Stt C w H (ts ++ ρ) (vs ++ σ)) (l : vs.length = ts.length) (e : frzs ts = some (b, ds)) : ∃ w' xs, After w H w' H ∧ Stt C w' H ρ σ ∧ vs = xs.map some ∧ RDs C H (w'.im b) ds xs := by
  obtain ⟨F, rt, nd, out, tr, tb⟩ := h
  obtain ⟨v1, v2, f1, f2, ev, rfl, h1, h2⟩ := rt.split
  have l1 := h1.length
  obtain ⟨rfl, rfl⟩ := List.append_inj ev (by omega)
  have nd2 := List.nodup_append.mp nd
  obtain ⟨xs, rfl, hx⟩ := RTs_frz _ _ _ _ _ h1 e
  refine ⟨⟨fun a => w.I a ∨ a ∈ f1, w.B, w.R⟩, xs, ⟨fun a z => .inl z, rfl, rfl, fun a z => ?_, fun _ _ => rfl⟩, ⟨f2, ?_, nd2.2.1, fun a ha => ?_, fun a z => ?_, tb⟩, rfl, hx⟩
  · rcases z with z | z
    · exact .inl z
    · exact .inr (out a (List.mem_append_left _ z)).2
  · exact RTs_mono (w := w) (w' := ⟨fun a => w.I a ∨ a ∈ f1, w.B, w.R⟩) (H := H) (fun a z => ⟨.inl z, rfl⟩) (fun a z => ⟨z, rfl⟩) _ _ _ (fun _ _ => rfl) h2
  · have q := out a (List.mem_append_right _ ha)
    exact ⟨fun z => z.elim q.1 fun z => nd2.2.2 a z a ha rfl, q.2⟩
  · rcases z with (z | z) | z | z
    · exact tr a (.inl z)
    · obtain ⟨o, ho⟩ := RTs_some _ _ _ h1 a z
      rw [ho]; simp
    · exact tr a (.inr (.inl z))
    · exact tr a (.inr (.inr z))
def fTup : List T → List T → ER T := fun ts ρ => if ts.length ≤ 1000 then (match frzs ts with
  | some (b, ds) => .ok (.imm b (.tup ds)) ρ
  | none => .bad) else .bad
def dTup (da : DA) : DE := fun ρ => (da ρ).bind fTup
theorem se_tup {es : List Expr} {k : Nat} {da : DA} {pos : Pos} (h : SA X ca W es da) : SE X ca W (.Tuple es k pos) (dTup da) := ⟨PE.imp (pe_tup h.pa) fun σ H Q q => exA q fun w H ts ρ vs l S k => by
  unfold fTup at k
  split at k
  · rename_i hl
    refine ⟨by rw [l, sizeLine_eq]; omega, fun p hp => ?_⟩
    cases e : frzs ts with
    | none => simp only [e] at k; exact k.elim
    | some q =>
      obtain ⟨b, ds⟩ := q
      simp only [e] at k
      obtain ⟨w1, xs, A1, S1, ex, rd⟩ := S.freezes (by simpa using l) e
      have ex' : vs = xs := by
        have := congrArg (fun l => l.filterMap id) ex
        simpa using this
      subst ex'
      obtain ⟨w2, A2, S2⟩ := S1.newT rd hp
      exact k w2 _ _ (A1.trans A2) S2
  · exact k.elim⟩
def fLst : List T → List T → ER T := fun ts ρ => if ts.length ≤ 1000 then (match frzs ts with
  | some (false, ds) => .ok (.lstI ds) ρ
  | _ => .bad) else .bad
def dLst (da : DA) : DE := fun ρ => (da ρ).bind fLst
theorem RDs.false {ds : List D} {ys : List V} (h : RDs C H (w.im false) ds ys) : RDs C H w.I ds ys := RDs_mono (fun a z => ⟨im_false z, rfl⟩) _ _ h
theorem se_lst {es : List Expr} {da : DA} {pos : Pos} (h : SA X ca W es da) : SE X ca W (.List es pos) (dLst da) := ⟨PE.imp (pe_lst h.pa) fun σ H Q q => exA q fun w H ts ρ vs l S k => by
  unfold fLst at k
  split at k
  · rename_i hl
    refine ⟨by rw [l, sizeLine_eq]; omega, fun p hp => ?_⟩
    cases e : frzs ts with
    | none => simp only [e] at k; exact k.elim
    | some q =>
      obtain ⟨b, ds⟩ := q
      cases b with
      | true => simp only [e] at k; exact k.elim
      | false =>
        simp only [e] at k
        obtain ⟨w1, xs, A1, S1, ex, rd⟩ := S.freezes (by simpa using l) e
        have ex' : vs = xs := by
          have := congrArg (fun l => l.filterMap id) ex
          simpa using this
        subst ex'
        obtain ⟨A2, S2⟩ := S1.newL rd.false hp
        exact k w1 _ _ (A1.trans A2) S2
  · exact k.elim⟩

/-! items and slices -/
def D.flat : D → Bool
  | .non | .bl _ | .int _ | .str _ | .ty _ => true
  | _ => false
def itm (b : Bool) (d : D) : T := .imm (b && !d.flat) d
theorem RD.flat {A A' : Addr → Prop} : ∀ {d : D} {v : V}, d.flat = true → RD C H A d v → RD C H A' d v
  | .non, _, _, r => r
  | .bl _, _, _, r => r
  | .int _, _, _, r => r
  | .str _, _, _, r => r
  | .ty _, _, _, r => r
theorem Stt.cons_itm {b : Bool} {d : D} {y : V} (h : Stt C w H ρ σ) (r : RD C H (w.im b) d y) : Stt C w H (itm b d :: ρ) (some y :: σ) := by
  unfold itm
  by_cases hf : d.flat = true
  · rw [hf]
    simp only [Bool.not_true, Bool.and_false]
    exact h.cons_imm (r.flat hf)
  · have hf : d.flat = false := by simpa using hf
    rw [hf]
    simp only [Bool.not_false, Bool.and_true]
    exact h.cons_imm r
def gIx (b : Bool) (x : D) (i : Int) : Option T := match x with
  | .lst ds => (atI ds i).map (itm b)
  | .tup ds => (atI ds i).map (itm b)
  | .scr ns => (atI ns i).map fun n => .imm false (.int n)
  | .str s => if s.length ≤ sizeLine then (atI s.cps.toList i).map fun c => .imm false (.str ⟨#[c]⟩) else none
  | _ => none
def fIx : T → T → DE := fun x y ρ => match x, y with
  | .imm b d, .imm _ (.int i) => match gIx b d i with
    | some t => .ok t ρ
    | none => .bad
  | _, _ => .bad
theorem atI_len {α β : Type} {xs : List α} {ys : List β} {i : Int} {a : α} (l : xs.length = ys.length) (h : atI xs i = some a) : ∃ j : Nat, xs[j]? = some a ∧ atI ys i = ys[j]? := by
  unfold atI at h ⊢
  rw [← l]
  cases e : ixN xs.length i with
  | none => rw [e] at h; cases h
  | some j =>
    rw [e] at h
    exact ⟨j, h, rfl⟩
theorem RDs.atI {A : Addr → Prop} {ds : List D} {vs : List V} {i : Int} {d : D} (r : RDs C H A ds vs) (h : atI ds i = some d) : ∃ v, L2.atI vs i = some v ∧ RD C H A d v := by
  obtain ⟨j, h1, h2⟩ := atI_len r.length h
  obtain ⟨v, hv, rv⟩ := r.get h1
  exact ⟨v, by rw [h2]; exact hv, rv⟩
theorem ixS {b : Bool} {d : D} {i : Int} {y : V} {τ : T} {Q : VK} (S : Stt C w H ρ σ) (r : RD C H (w.im b) d y) (e : gIx b d i = some τ) (k : ∀ z, Stt C w H (τ :: ρ) (some z :: σ) → Q z H) : rIx C.K y (.int i) H Q := by
  unfold gIx at e
  cases d with
  | lst ds =>
    obtain ⟨a, vs, rfl, ⟨l1, l2⟩, rd⟩ := r
    simp only at e
    cases q : atI ds i with
    | none => rw [q] at e; cases e
    | some d =>
      rw [q] at e
      cases e
      obtain ⟨z, hz, rz⟩ := rd.atI q
      exact .inl ⟨a, vs, i, z, rfl, rfl, .of l2, hz, k z (S.cons_itm rz)⟩
  | tup ds =>
    obtain ⟨a, vs, rfl, ⟨l1, l2⟩, rd⟩ := r
    simp only at e
    cases q : atI ds i with
    | none => rw [q] at e; cases e
    | some d =>
      rw [q] at e
      cases e
      obtain ⟨z, hz, rz⟩ := rd.atI q
      exact .inr (.inl ⟨a, vs, i, z, rfl, rfl, .of l2, hz, k z (S.cons_itm rz)⟩)
  | scr ns =>
    obtain ⟨a, rfl, la⟩ := r
    simp only at e
    cases q : atI ns i with
    | none => rw [q] at e; cases e
    | some n =>
      rw [q] at e
      cases e
      obtain ⟨j, h1, h2⟩ := atI_len (ys := ns.map V.int) (by simp) q
      exact .inl ⟨a, _, i, .int n, rfl, rfl, la.sq, by rw [h2, List.getElem?_map, h1]; rfl, k _ (S.cons_imm rfl)⟩
  | str s =>
    have r : y = .str s := r
    simp only at e
    split at e
    · rename_i hl
      cases q : atI s.cps.toList i with
      | none => rw [q] at e; cases e
      | some c =>
        rw [q] at e
        cases e
        exact .inr (.inr ⟨s, i, c, r, rfl, hl, q, k _ (S.cons_imm rfl)⟩)
    · cases e
  | _ => cases e
theorem se_ix {a b : Expr} {da db : DE} {pos : Pos} (ha : SE X ca W a da) (hb : SE X ca W b db) (hs : PlainIx b := by exact fun _ _ => rfl) : SE X ca W (.Subscript a b pos) (d2 fIx da db) := ⟨PE.imp (pe_ix ix_seq ha.pe hb.pe hs) fun σ H Q q => two q fun w H x y ρ v u S k => by
  unfold fIx at k
  split at k
  · rename_i b d c i
    obtain ⟨x', ex, r1⟩ := S.head_imm
    cases ex
    have e2 := S.drop.head_int
    subst e2
    cases e : gIx b d i with
    | none => simp only [e] at k; exact k.elim
    | some τ =>
      simp only [e] at k
      exact ixS (C := ⟨X.K, ca⟩) S.drop.drop r1 e fun z S' => k w H z .refl S'
  · exact k.elim⟩
/-! slices -/
abbrev DO := List T → ER (Option Int)
def kO (C : Ct) (W : WX) (w : Wd) (H : Hp) (σ : L2.St) (Q : Option Int → Hp → Prop) : ER (Option Int) → Prop
  | .ok o ρ' => ∀ w' H', After w H w' H' → Stt C w' H' ρ' σ → Q o H'
  | .exc e ρ' => ∀ w' H' cls dx, After w H w' H' → Stt C w' H' ρ' σ → ExAt C w'.I H' e cls dx → W cls dx σ H'
  | .bad => False
def tO (C : Ct) (W : WX) (d : DO) : TO := fun σ H Q => ∃ w ρ, Stt C w H ρ σ ∧ kO C W w H σ Q (d ρ)
structure SO (X : Cx) (ca : Cad) (W : WX) (e : Option Expr) (d : DO) : Prop where
  po : PO X e (tO ⟨X.K, ca⟩ W d)
theorem PO.imp {X : Cx} {e : Option Expr} {t t' : TO} (h : PO X e t) (i : ∀ σ H Q, t' σ H Q → t σ H Q) : PO X e t' := ⟨fun pins s σ H Q I q => h.run pins s σ H Q I (i σ H Q q)⟩
def doNone : DO := fun ρ => .ok none ρ
def doSome (d : DE) : DO := fun ρ => (d ρ).bind fun x ρ1 => match x with
  | .imm _ (.int i) => .ok (some i) ρ1
  | _ => .bad
def cutD {α : Type} (xs : List α) (lo hi : Option Int) : List α := (xs.drop (HT.sIx xs.length 0 lo)).take (HT.sIx xs.length xs.length hi - HT.sIx xs.length 0 lo)
def fSl (x : T) (lo hi : Option Int) (ρ : List T) : ER T := match x with
  | .imm false (.lst ds) => .ok (.lstI (cutD ds lo hi)) ρ
  | .imm _ (.scr ns) => .ok (.lstI ((cutD ns lo hi).map D.int)) ρ
  | .imm b (.tup ds) => .ok (.imm b (.tup (cutD ds lo hi))) ρ
  | .imm _ (.str s) => if s.length ≤ sizeLine then .ok (.imm false (.str (cutS s lo hi))) ρ else .bad
  | _ => .bad
def dSl (da : DE) (dl dh : DO) : DE := fun ρ => (da ρ).bind fun x ρ1 => (dl ρ1).bind fun l ρ2 => (dh ρ2).bind fun h ρ3 => fSl x l h ρ3
end
end Gb

namespace Gb
open PySem PySem.Spec L2
section
variable {C : Ct} {W : WX} {pn ch : List Nat} {w w' : Wd} {H H' : Hp} {σ σ' : L2.St} {En : Ends} {X : Cx} {ca : Cad} {ρ : List T} {t u : T} {v x : Option V}
/-! built-in functions -/
def CalS (X : Cx) (ca : Cad) (W : WX) (fv : Value) (f : List T → List T → ER T) : Prop :=
  ∃ r : List V → Hp → VK → Prop, CallR X fv r ∧ ∀ w H σ Q ts ρ vs, vs.length = ts.length → Stt ⟨X.K, ca⟩ w H (ts ++ ρ) (vs.map some ++ σ) → kE ⟨X.K, ca⟩ W w H σ Q (f ts ρ) → r vs H Q
def dBi (f : List T → List T → ER T) (da : DA) : DE := fun ρ => (da ρ).bind f
theorem se_bi {x : Str} {id : String} {f : List T → List T → ER T} {e : Expr} {es : List Expr} {da : DA} {p pos : Pos} (o : CalS X ca W (.builtin id) f) (hm : X.mg x = none) (hv : bootBuiltins x = some (.builtin id)) (ha : SA X ca W (e :: es) da) (hg : Gl X x := by rfl)
    (hn : x ≠ "__name__" := by decide) (hdb : (x == ("__debug__" : Str)) = false := by decide) (he : starEach (e :: es) X.env = (false, eval e X.env) :: starEach es X.env := by rfl) (hpl : (backTo pos (starEach es X.env)).any (·.1) = false := by rfl) :
    SE X ca W (.Call (.Name x p) (e :: es) [] pos) (dBi f da) := by
  obtain ⟨r, hr, h⟩ := o
  exact ⟨PE.imp (pe_callB hr hg hm hv ha.pa hn hdb he hpl) fun σ H Q q => exA q fun w H ts ρ vs l S k => h w H σ Q ts ρ vs l S k⟩
theorem se_bt {x : Str} {id : String} {f : List T → List T → ER T} {e : Expr} {es : List Expr} {da : DA} {p pos : Pos} (o : CalS X ca W (.type id) f) (hm : X.mg x = none) (hv : bootBuiltins x = some (.type id)) (ha : SA X ca W (e :: es) da) (hg : Gl X x := by rfl)
    (hn : x ≠ "__name__" := by decide) (hdb : (x == ("__debug__" : Str)) = false := by decide) (he : starEach (e :: es) X.env = (false, eval e X.env) :: starEach es X.env := by rfl) (hpl : (backTo pos (starEach es X.env)).any (·.1) = false := by rfl) :
    SE X ca W (.Call (.Name x p) (e :: es) [] pos) (dBi f da) := by
  obtain ⟨r, hr, h⟩ := o
  exact ⟨PE.imp (pe_callTy hr hg hm hv ha.pa hn hdb he hpl) fun σ H Q q => exA q fun w H ts ρ vs l S k => h w H σ Q ts ρ vs l S k⟩
theorem arg1 {a : T} {ρ : List T} {vs : List V} (l : vs.length = [a].length) (S : Stt C w H ([a] ++ ρ) (vs.map some ++ σ)) : ∃ v, vs = [v] ∧ Stt C w H (a :: ρ) (some v :: σ) := by
  obtain ⟨v, rfl⟩ := vs1 l
  exact ⟨v, rfl, S⟩
theorem arg2 {a b : T} {ρ : List T} {vs : List V} (l : vs.length = [a, b].length) (S : Stt C w H ([a, b] ++ ρ) (vs.map some ++ σ)) : ∃ v u, vs = [v, u] ∧ Stt C w H (a :: b :: ρ) (some v :: some u :: σ) := by
  obtain ⟨v, u, rfl⟩ := vs2 l
  exact ⟨v, u, rfl, S⟩
theorem Stt.head_rd {b : Bool} {d : D} {v : V} (S : Stt C w H (.imm b d :: ρ) (some v :: σ)) : RD C H (w.im b) d v := by
  obtain ⟨x, ex, r⟩ := S.head_imm
  cases ex
  exact r

def D.len? : D → Option Nat
  | .lst ds => some ds.length
  | .tup ds => some ds.length
  | .scr ns => some ns.length
  | .str s => if s.length ≤ sizeLine then some s.length else none
  | .non | .bl _ | .int _ | .ty _ | .dic _ _ | .obj _ _ _ | .exn _ _ _ _ | .exv _ _ _ => none
theorem RD.len {A : Addr → Prop} : ∀ {d : D} {v : V} {n : Nat}, RD C H A d v → d.len? = some n → LenV C.K v H n
  | .lst ds, v, n, r, e => by
    obtain ⟨a, vs, rfl, ⟨l1, l2⟩, rd⟩ := r
    cases e
    exact .inl ⟨vs, .of l2, rd.length⟩
  | .tup ds, v, n, r, e => by
    obtain ⟨a, vs, rfl, ⟨l1, l2⟩, rd⟩ := r
    cases e
    exact .inr ⟨vs, .of l2, rd.length⟩
  | .scr ds, v, n, r, e => by
    obtain ⟨a, rfl, la⟩ := r
    cases e
    exact .inl ⟨_, la.sq, by simp⟩
  | .str ds, v, n, r, e => by
    have r : v = .str ds := r
    subst r
    have e : (if ds.length ≤ sizeLine then some ds.length else none) = some n := e
    split at e
    · rename_i h
      cases e
      exact ⟨h, rfl⟩
    · cases e
  | .non, _, _, _, e => by cases e
  | .bl _, _, _, _, e => by cases e
  | .int _, _, _, _, e => by cases e
  | .ty _, _, _, _, e => by cases e
  | .dic _ _, _, _, _, e => by cases e
  | .obj _ _ _, _, _, _, e => by cases e
  | .exn _ _ _ _, _, _, _, e => by cases e
  | .exv _ _ _, _, _, _, e => by cases e
def fLen : List T → List T → ER T := fun ts ρ => match ts with
  | [.imm _ d] => match d.len? with
    | some n => .ok (.imm false (.int n)) ρ
    | none => .bad
  | _ => .bad
theorem cs_len : CalS X ca W (.builtin "len") fLen := ⟨_, call_len, fun w H σ Q ts ρ vs l S k => by
  unfold fLen at k
  split at k
  · rename_i b d
    obtain ⟨v, rfl, S'⟩ := arg1 l S
    split at k
    · rename_i n hn
      exact ⟨v, n, rfl, S'.head_rd.len hn, k w H _ .refl (S'.drop.cons_imm rfl)⟩
    · exact k.elim
  · exact k.elim⟩
/-- f of ints, an int -/
def fAbs : List T → List T → ER T := fun ts ρ => match ts with
  | [.imm _ (.int i)] => .ok (.imm false (.int (if i < 0 then -i else i))) ρ
  | _ => .bad
def D.bools : List D → Option (List Bool)
  | [] => some []
  | .bl b :: ds => match D.bools ds with
    | some bs => some (b :: bs)
    | none => none
  | _ :: _ => none
def D.ints : List D → Option (List Int)
  | [] => some []
  | .int i :: ds => match D.ints ds with
    | some bs => some (i :: bs)
    | none => none
  | _ :: _ => none
@[simp] theorem bools_map : ∀ bs : List Bool, D.bools (bs.map D.bl) = some bs
  | [] => rfl
  | b :: bs => by simp [D.bools, bools_map bs]
@[simp] theorem ints_map : ∀ bs : List Int, D.ints (bs.map D.int) = some bs
  | [] => rfl
  | b :: bs => by simp [D.ints, ints_map bs]
theorem bools_inv : ∀ {ds : List D} {bs : List Bool}, D.bools ds = some bs → ds = bs.map D.bl
  | [], bs, h => by cases h; rfl
  | d :: ds, bs, h => by
    unfold D.bools at h
    split at h
    · cases ‹_ :: _ = []›
    · rename_i b ds' e
      cases e
      split at h
      · rename_i bs' e'
        cases h
        rw [bools_inv e']; rfl
      · cases h
    · cases h
theorem ints_inv : ∀ {ds : List D} {bs : List Int}, D.ints ds = some bs → ds = bs.map D.int
  | [], bs, h => by cases h; rfl
  | d :: ds, bs, h => by
    unfold D.ints at h
    split at h
    · cases ‹_ :: _ = []›
    · rename_i b ds' e
      cases e
      split at h
      · rename_i bs' e'
        cases h
        rw [ints_inv e']; rfl
      · cases h
    · cases h
theorem RDs.bls {A : Addr → Prop} : ∀ {bs : List Bool} {vs : List V}, RDs C H A (bs.map D.bl) vs → vs = bs.map V.bl
  | [], vs, h => h
  | n :: ns, vs, h => by
    obtain ⟨v, r, rfl, h1, h2⟩ := h
    have e : v = .bl n := h1
    rw [e, RDs.bls h2]; rfl
/-- a list (or the script) of ints -/
def D.intList : D → Option (List Int)
  | .lst ds => D.ints ds
  | .scr ns => some ns
  | _ => none
theorem RD.intList {A : Addr → Prop} {d : D} {v : V} {ns : List Int} (r : RD C H A d v) (e : d.intList = some ns) : ∃ a, v = .ref a ∧ SqL C.K H a (ns.map V.int) := by
  unfold D.intList at e
  split at e
  · obtain ⟨a, vs, rfl, ⟨l1, l2⟩, rd⟩ := r
    have q := ints_inv e
    subst q
    have q := rd.ints
    subst q
    exact ⟨a, rfl, .of l2⟩
  · obtain ⟨a, rfl, la⟩ := r
    cases e
    exact ⟨a, rfl, la.sq⟩
  · cases e
def fBools (g : List Bool → Bool) : List T → List T → ER T := fun ts ρ => match ts with
  | [.imm _ (.lst ds)] => match D.bools ds with
    | some bs => .ok (.imm false (.bl (g bs))) ρ
    | none => .bad
  | _ => .bad
theorem bls_at {b : Bool} {ds : List D} {bs : List Bool} {v : V} (S : Stt C w H (.imm b (.lst ds) :: ρ) (some v :: σ)) (h : D.bools ds = some bs) : ∃ a, v = .ref a ∧ SqL C.K H a (bs.map V.bl) := by
  obtain ⟨a, vs, rfl, ⟨l1, l2⟩, rd⟩ := S.head_rd
  have e := bools_inv h
  subst e
  have e := rd.bls
  subst e
  exact ⟨a, rfl, .of l2⟩
theorem cs_all (hc : X.calm = true) : CalS X ca W (.builtin "all") (fBools fun bs => bs.all id) := ⟨_, cr_all hc, fun w H σ Q ts ρ vs l S k => by
  unfold fBools at k
  split at k
  · obtain ⟨v, rfl, S'⟩ := arg1 l S
    split at k
    · rename_i bs hb
      obtain ⟨a, rfl, q⟩ := bls_at S' hb
      exact ⟨a, bs, rfl, q, k w H _ .refl (S'.drop.cons_imm rfl)⟩
    · exact k.elim
  · exact k.elim⟩
def fSum : List T → List T → ER T := fun ts ρ => match ts with
  | [.imm _ d] => match d.intList with
    | some ns => .ok (.imm false (.int ns.sum)) ρ
    | none => .bad
  | _ => .bad
def maxZ : List Int → Option Int
  | [] => none
  | [i] => some i
  | i :: j :: is => match maxZ (j :: is) with
    | some m => some (if m ≤ i then i else m)
    | none => none
def minZ : List Int → Option Int
  | [] => none
  | [i] => some i
  | i :: j :: is => match minZ (j :: is) with
    | some m => some (if i ≤ m then i else m)
    | none => none
def fMax : List T → List T → ER T := fun ts ρ => match ts with
  | [.imm _ (.int i), .imm _ (.int j)] => .ok (.imm false (.int (max i j))) ρ
  | [.imm _ d] => match d.intList with
    | some ns => match maxZ ns with
      | some m => .ok (.imm false (.int m)) ρ
      | none => .bad
    | none => .bad
  | _ => .bad
def fMin : List T → List T → ER T := fun ts ρ => match ts with
  | [.imm _ (.int i), .imm _ (.int j)] => .ok (.imm false (.int (min i j))) ρ
  | [.imm _ d] => match d.intList with
    | some ns => match minZ ns with
      | some m => .ok (.imm false (.int m)) ρ
      | none => .bad
    | none => .bad
  | _ => .bad
theorem RDs.allflat {A A' : Addr → Prop} : ∀ {ds : List D} {vs : List V}, ds.all D.flat = true → RDs C H A ds vs → RDs C H A' ds vs
  | [], _, _, r => r
  | d :: ds, _, h, r => by
    obtain ⟨v, r, rfl, h1, h2⟩ := r
    rw [List.all_cons, Bool.and_eq_true] at h
    exact ⟨v, r, rfl, h1.flat h.1, RDs.allflat h.2 h2⟩
/-- list(x), tuple(x) -/
def fList : List T → List T → ER T := fun ts ρ => match ts with
  | [.imm false (.lst ds)] => .ok (.lstI ds) ρ
  | [.imm false (.tup ds)] => .ok (.lstI ds) ρ
  | [.imm _ (.scr ns)] => .ok (.lstI (ns.map D.int)) ρ
  | [.imm true (.tup ds)] => if ds.all D.flat = true then .ok (.lstI ds) ρ else .bad
  | _ => .bad
theorem cs_list : CalS X ca W (.type "list") fList := ⟨_, call_list_of, fun w H σ Q ts ρ vs l S k => by
  unfold fList at k
  split at k
  · obtain ⟨v, rfl, S'⟩ := arg1 l S
    obtain ⟨a, vs, rfl, ⟨l1, l2⟩, rd⟩ := S'.head_rd
    refine ⟨a, vs, rfl, .inl (.of l2), fun p hp => ?_⟩
    obtain ⟨A, S2⟩ := S'.drop.newL rd.false hp
    exact k w _ _ A S2
  · obtain ⟨v, rfl, S'⟩ := arg1 l S
    obtain ⟨a, vs, rfl, ⟨l1, l2⟩, rd⟩ := S'.head_rd
    refine ⟨a, vs, rfl, .inr (.of l2), fun p hp => ?_⟩
    obtain ⟨A, S2⟩ := S'.drop.newL rd.false hp
    exact k w _ _ A S2
  · obtain ⟨v, rfl, S'⟩ := arg1 l S
    obtain ⟨a, rfl, la⟩ := S'.head_rd
    refine ⟨a, _, rfl, .inl la.sq, fun p hp => ?_⟩
    obtain ⟨A, S2⟩ := S'.drop.newL (.of_ints _) hp
    exact k w _ _ A S2
  · split at k
    · rename_i hf
      obtain ⟨v, rfl, S'⟩ := arg1 l S
      obtain ⟨a, vs, rfl, ⟨l1, l2⟩, rd⟩ := S'.head_rd
      refine ⟨a, vs, rfl, .inr (.of l2), fun p hp => ?_⟩
      obtain ⟨A, S2⟩ := S'.drop.newL (rd.allflat hf) hp
      exact k w _ _ A S2
    · exact k.elim
  · exact k.elim⟩
def bfl (b : Bool) (ds : List D) : Bool := b && !ds.all D.flat
theorem RDs.bfl {b : Bool} {ds : List D} {vs : List V} (r : RDs C H (w.im b) ds vs) : RDs C H (w.im (bfl b ds)) ds vs := by
  unfold Gb.bfl
  cases hf : ds.all D.flat with
  | true => exact r.allflat hf
  | false => simpa using r
def fTuple : List T → List T → ER T := fun ts ρ => match ts with
  | [.imm b (.lst ds)] => .ok (.imm (bfl b ds) (.tup ds)) ρ
  | [.imm b (.tup ds)] => .ok (.imm b (.tup ds)) ρ
  | _ => .bad
theorem cs_tuple : CalS X ca W (.type "tuple") fTuple := ⟨_, call_tuple_of, fun w H σ Q ts ρ vs l S k => by
  unfold fTuple at k
  split at k
  · obtain ⟨v, rfl, S'⟩ := arg1 l S
    obtain ⟨a, vs, rfl, ⟨l1, l2⟩, rd⟩ := S'.head_rd
    refine ⟨a, vs, rfl, .inl ⟨.of l2, fun p hp => ?_⟩⟩
    obtain ⟨w', A, S2⟩ := S'.drop.newT rd.bfl hp
    exact k w' _ _ A S2
  · obtain ⟨v, rfl, S'⟩ := arg1 l S
    obtain ⟨a, vs, rfl, ⟨l1, l2⟩, rd⟩ := S'.head_rd
    exact ⟨a, vs, rfl, .inr ⟨.of l2, k w H _ .refl S'⟩⟩
  · exact k.elim⟩
def fInt : List T → List T → ER T := fun ts ρ => match ts with
  | [.imm _ (.int i)] => .ok (.imm false (.int i)) ρ
  | [.imm _ (.bl b)] => .ok (.imm false (.int (if b then 1 else 0))) ρ
  | [.imm _ (.str s)] => match PySem.intText? s with
    | some n => if s.length ≤ 640 then .ok (.imm false (.int n)) ρ else .bad
    | none => .bad
  | _ => .bad
/-! isinstance -/
def D.kind : D → Option String
  | .non => some "NoneType"
  | .bl _ => some "bool"
  | .int _ => some "int"
  | .str _ => some "str"
  | .lst _ => some "list"
  | .tup _ => some "tuple"
  | .dic _ _ => some "dict"
  | .scr _ | .ty _ | .obj _ _ _ | .exn _ _ _ _ | .exv _ _ _ => none
def isB (t n : String) : Option Bool := match t, n with
  | "int", "int" | "bool", "int" | "bool", "bool" | "str", "str" | "list", "list" | "tuple", "tuple" | "dict", "dict" => some true
  | "NoneType", "int" | "NoneType", "bool" | "NoneType", "str" | "NoneType", "list" | "NoneType", "tuple" | "NoneType", "dict" => some false
  | "bool", "str" | "bool", "list" | "bool", "tuple" | "bool", "dict" => some false
  | "int", "bool" | "int", "str" | "int", "list" | "int", "tuple" | "int", "dict" => some false
  | "str", "int" | "str", "bool" | "str", "list" | "str", "tuple" | "str", "dict" => some false
  | "list", "int" | "list", "bool" | "list", "str" | "list", "tuple" | "list", "dict" => some false
  | "tuple", "int" | "tuple", "bool" | "tuple", "str" | "tuple", "list" | "tuple", "dict" => some false
  | "dict", "int" | "dict", "bool" | "dict", "str" | "dict", "list" | "dict", "tuple" => some false
  | _, _ => none
theorem isB_kit {t n : String} {b : Bool} (h : isB t n = some b) : kitB t n = some b := by
  unfold isB at h
  split at h <;> cases h <;> decide +kernel
theorem RD.kind {A : Addr → Prop} : ∀ {d : D} {v : V} {t : String}, RD C H A d v → d.kind = some t → TyX C.K H v (.type t)
  | .non, v, t, r, e => by cases e; cases (show v = .non from r); exact .base .non
  | .bl _, v, t, r, e => by cases e; cases (show v = .bl _ from r); exact .base (.bl _)
  | .int _, v, t, r, e => by cases e; cases (show v = .int _ from r); exact .base (.int _)
  | .str _, v, t, r, e => by cases e; cases (show v = .str _ from r); exact .base (.str _)
  | .lst _, v, t, r, e => by
    obtain ⟨a, vs, rfl, ⟨l1, l2⟩, rd⟩ := r
    cases e; exact .base (.lst l2)
  | .tup _, v, t, r, e => by
    obtain ⟨a, vs, rfl, ⟨l1, l2⟩, rd⟩ := r
    cases e; exact .base (.tup l2)
  | .dic _ _, v, t, r, e => by
    obtain ⟨a, kvs, rfl, l1, l2, _⟩ := r
    cases e
    rcases l2 with l2 | ⟨o, l2⟩
    · exact .base (.dK l2)
    · exact .fDict l2
  | .scr _, _, _, _, e => by cases e
  | .ty _, _, _, _, e => by cases e
  | .obj _ _ _, _, _, _, e => by cases e
  | .exn _ _ _ _, _, _, _, e => by cases e
  | .exv _ _ _, _, _, _, e => by cases e
/-- isinstance(x, T) or isinstance(x, (T, ..)) with built-in classes -/
def isIn (t : String) : List D → Option Bool
  | [] => some false
  | .ty n :: cs => match isB t n with
    | some true => if cs.all (fun c => match c with | .ty _ => true | _ => false) then some true else none
    | some false => isIn t cs
    | none => none
  | _ :: _ => none
def fIsi : List T → List T → ER T := fun ts ρ => match ts with
  | [.imm _ d, .imm _ (.ty n)] => match d.kind with
    | some t => match isB t n with
      | some b => .ok (.imm false (.bl b)) ρ
      | none => .bad
    | none => .bad
  | [.imm _ d, .imm _ (.tup cs)] => match d.kind with
    | some t => match isIn t cs with
      | some b => .ok (.imm false (.bl b)) ρ
      | none => .bad
    | none => .bad
  | _ => .bad
theorem isIn_kit {A : Addr → Prop} {t : String} : ∀ {cs : List D} {vs : List V} {b : Bool}, RDs C H A cs vs → isIn t cs = some b → ∃ us, Paired ClsV vs us ∧ PySem.W.kitAny C.K (.type t) us = some b
  | [], vs, b, r, e => by
    cases (show vs = [] from r)
    cases e
    exact ⟨[], .nil, rfl⟩
  | c :: cs, vs, b, r, e => by
    obtain ⟨v, vr, rfl, h1, h2⟩ := r
    unfold isIn at e
    split at e
    · cases ‹_ :: _ = []›
    · rename_i n cs' ec
      cases ec
      cases (show v = .ty n from h1)
      split at e
      · rename_i hb
        split at e
        case isFalse => cases e
        rename_i hb2
        cases e
        -- the rest doesn't matter, but its classes must be there
        have aux : ∀ (cs : List D) (vs : List V), RDs C H A cs vs → (∀ c ∈ cs, ∃ n, c = .ty n) → ∃ us, Paired ClsV vs us := by
          intro cs
          induction cs with
          | nil => intro vs r _; cases (show vs = [] from r); exact ⟨[], .nil⟩
          | cons c cs ih =>
            intro vs r hc
            obtain ⟨v, vr, rfl, h1, h2⟩ := r
            obtain ⟨n, rfl⟩ := hc c (by simp)
            cases (show v = .ty n from h1)
            obtain ⟨us, hu⟩ := ih vr h2 fun c hm => hc c (by simp [hm])
            exact ⟨_ :: us, .cons (.ty n) hu⟩
        have hall : ∀ c ∈ cs, ∃ n, c = .ty n := fun c hm => by
          have q := List.all_eq_true.mp hb2 c hm
          cases c <;> first | exact ⟨_, rfl⟩ | cases q
        obtain ⟨us, hu⟩ := aux cs vr h2 hall
        exact ⟨.type n :: us, .cons (.ty n) hu, kitAny_cons (kit_ty (isB_kit hb)) (fun z => by cases z) fun _ => rfl⟩
      · rename_i hb
        obtain ⟨us, hu, hk⟩ := isIn_kit h2 e
        exact ⟨.type n :: us, .cons (.ty n) hu, kitAny_cons (kit_ty (isB_kit hb)) (fun _ => hk) fun z => by cases z⟩
      · cases e
    · cases e
theorem cs_isi : CalS X ca W (.builtin "isinstance") fIsi := ⟨_, call_isi.or call_isiT, fun w H σ Q ts ρ vs l S k => by
  unfold fIsi at k
  split at k
  · rename_i b d c n
    obtain ⟨v, u, rfl, S'⟩ := arg2 l S
    split at k
    · rename_i t ht
      split at k
      · rename_i r hr
        have e : u = .ty n := S'.drop.head_rd
        subst e
        exact .inl ⟨v, .ty n, .type t, .type n, r, rfl, .ty n, S'.head_rd.kind ht, kit_ty (isB_kit hr), k w H _ .refl (S'.drop.drop.cons_imm rfl)⟩
      · exact k.elim
    · exact k.elim
  · rename_i b d c cs
    obtain ⟨v, u, rfl, S'⟩ := arg2 l S
    split at k
    · rename_i t ht
      split at k
      · rename_i r hr
        obtain ⟨a, us, rfl, ⟨l1, l2⟩, rd⟩ := S'.drop.head_rd
        obtain ⟨us', hp, hk⟩ := isIn_kit rd hr
        exact .inr ⟨v, a, us, .type t, us', r, rfl, l2, hp, S'.head_rd.kind ht, hk, k w H _ .refl (S'.drop.drop.cons_imm rfl)⟩
      · exact k.elim
    · exact k.elim
  · exact k.elim⟩
/-- a built-in class as a value -/
theorem se_bty {x : Str} {n : String} {pos : Pos} (hm : X.mg x = none) (hv : bootBuiltins x = some (.type n)) (hg : Gl X x := by rfl) (hn : x ≠ "__name__" := by decide) (hd : (x == ("__debug__" : Str)) = false := by decide) : SE X ca W (.Name x pos) (dC (.ty n)) :=
  ⟨PE.imp (pe_bltn (v := .ty n) hg hm hv rfl hn hd) fun σ H Q h => constE h fun _ _ => rfl⟩
end
end Gb

namespace Gb
open PySem PySem.Spec L2
section
variable {C : Ct} {W : WX} {pn ch : List Nat} {w w' : Wd} {H H' : Hp} {σ σ' : L2.St} {En : Ends} {X : Cx} {ca : Cad} {ρ : List T} {t u : T} {v x : Option V}
/-! a name's own list, changed -/
/-- the list in slot i is put otherwise -/
theorem Stt.wrAt {i : Nat} {ds ds' : List D} {vs' : List V} {p : Addr} (S : Stt C w H ρ σ) (e : ρ[i]? = some (.lstI ds)) (hv : σ[i]? = some (some (.ref p))) (r : RDs C H w.I ds' vs') :
    After w H w (upd H p (.lst vs')) ∧ Stt C w (upd H p (.lst vs')) (ρ.set i (.lstI ds')) σ := by
  obtain ⟨v, hv', S1⟩ := S.move e
  rw [hv] at hv'
  cases hv'
  obtain ⟨A, S2⟩ := S1.wr r
  refine ⟨A, ?_⟩
  have hi : i < ρ.length := (List.getElem?_eq_some_iff.mp e).1
  have S3 := S2.put (i := i) (by rw [List.length_set]; exact hi)
  rw [List.set_set, set_same hv] at S3
  exact S3
theorem Stt.atI {i : Nat} {ds : List D} (S : Stt C w H ρ σ) (e : ρ[i]? = some (.lstI ds)) : ∃ p vs, σ[i]? = some (some (.ref p)) ∧ H p = some (.lst vs) ∧ RDs C H w.I ds vs := by
  obtain ⟨v, hv', S1⟩ := S.move e
  obtain ⟨p, vs, rfl, hp, rd⟩ := S1.head_lstI
  exact ⟨p, vs, hv', hp, rd⟩
def dAppend (i : Nat) (de : DE) : DE := fun ρ => match ρ[i]? with
  | some (.lstI _) => (de ρ).bind fun t ρ1 => match ρ1[i]?, t.frz with
    | some (.lstI ds), some (false, d) => if ds.length < 16777216 then .ok (.imm false .non) (ρ1.set i (.lstI (ds ++ [d]))) else .bad
    | _, _ => .bad
  | _ => .bad
theorem asideM {i : Nat} {de : DE} {R : V → Hp → Prop} {Q : VK} {g : T → List T → ER T} (S : Stt C w H ρ σ) (k : kE C W w H σ Q ((de ρ).bind g))
    (hr : ∀ w' H' t ρ' v, Stt C w' H' (t :: ρ') (some v :: σ) → kE C W w' H' σ Q (g t ρ') → R v H') : tE C W de σ H R := by
  refine ⟨w, ρ, S, ?_⟩
  cases e : de ρ with
  | bad => rw [e] at k; exact k
  | exc x ρ1 => rw [e] at k; exact k
  | ok x ρ1 =>
    rw [e] at k
    exact fun w1 H1 v A1 S1 => hr w1 H1 x ρ1 v S1 (kE.after A1 k)
theorem se_append (i : Nat) {x : Str} {e : Expr} {de : DE} {px apos cpos : Pos} (he : SE X ca W e de) (hN : X.N[i]? = some x := by rfl) (hv : Vis X.env.scope x := by first | exact Or.inl rfl | exact Or.inr (Or.inl rfl) | exact Or.inr (Or.inr rfl))
    (hd : (x == ("__debug__" : Str)) = false := by decide) (hcd : (x == ("__classdict__" : Str)) = false := by decide) (hbase : attributeBase (.Name x px) "append" X.env (eval (.Name x px) X.env) = eval (.Name x px) X.env := by rfl)
    (hfew : ((backTo cpos (starEach (e :: []) X.env)).all (fun x => !x.1) && (backToKw cpos (keywordEach [] X.env)).all (fun x => x.1.isSome) && decide ((e :: ([] : List Expr)).length + ([] : List Keyword).length + (if ([] : List Keyword).isEmpty then 0 else 1) < 30)) = true := by rfl)
    (hline : (apos.endLine == cpos.line) = true := by rfl) (hs : starEach (e :: []) X.env = (false, eval e X.env) :: starEach [] X.env := by rfl) (hplain : (backTo cpos (starEach [] X.env)).any (·.1) = false := by rfl) :
    SE X ca W (.Call (.Attribute (.Name x px) "append" apos) [e] [] cpos) (dAppend i de) :=
  ⟨PE.imp (pe_bm PySem.F.plainAttrs_list PySem.F.slot_list_append PySem.F.type_list_append mt_append (pe_var hN hv hd hcd) (pa_cons he.pe pa_nil hs) hbase hfew hline hs hplain) fun σ H Q q => by
    obtain ⟨w, ρ, S, k⟩ := q
    unfold dAppend at k
    split at k
    · rename_i ds0 e0
      obtain ⟨p, vs, hp, hH, rd⟩ := S.atI e0
      refine ⟨_, hp, .inl ⟨rfl, vs, .of hH⟩, asideM (i := i) S k fun w1 H1 t ρ1 v S1 k1 => ?_⟩
      split at k1
      · rename_i ds d e1 ef
        split at k1
        · rename_i hl
          obtain ⟨w2, A2, S2⟩ := S1.freeze ef
          have ry := S2.head_rd.false
          obtain ⟨p', vs1, hp', hH1, rd1⟩ := S2.drop.atI e1
          rw [hp] at hp'
          cases hp'
          refine ⟨p, vs1, v, rfl, rfl, hH1, by rw [← rd1.length, sizeLine_eq]; exact hl, ?_⟩
          obtain ⟨A3, S3⟩ := S2.drop.wrAt e1 hp (rd1.append (show RDs _ H1 w2.I [d] [v] from ⟨v, [], rfl, ry, rfl⟩))
          exact k1 w2 _ .non (A2.trans A3) (S3.cons_imm rfl)
        · exact k1.elim
      · exact k1.elim
    · exact k.elim⟩
def dExtend (i : Nat) (de : DE) : DE := fun ρ => match ρ[i]? with
  | some (.lstI _) => (de ρ).bind fun t ρ1 => match ρ1[i]?, t.frz with
    | some (.lstI ds), some (false, .lst es) => if ds.length + es.length ≤ 16777216 then .ok (.imm false .non) (ρ1.set i (.lstI (ds ++ es))) else .bad
    | _, _ => .bad
  | _ => .bad
def dPop (i : Nat) : DE := fun ρ => match ρ[i]? with
  | some (.lstI ds) => match ds.getLast? with
    | some d => .ok (.imm false d) (ρ.set i (.lstI ds.dropLast))
    | none => .bad
  | _ => .bad
theorem RDs.dropLast {A : Addr → Prop} {ds : List D} {vs : List V} (r : RDs C H A ds vs) : RDs C H A ds.dropLast vs.dropLast := by
  rw [List.dropLast_eq_take, List.dropLast_eq_take, ← r.length]
  exact RDs.take _ r
def dClear (i : Nat) : DE := fun ρ => match ρ[i]? with
  | some (.lstI _) => .ok (.imm false .non) (ρ.set i (.lstI []))
  | _ => .bad
/-- name[k] = e -/
def dSetIx (i : Nat) (dk de : DE) : DS := dEx de fun t ρ1 => match ρ1[i]?, t.frz with
  | some (.lstI _), some (false, d) => match dk ρ1 with
    | .ok (.imm _ (.int k)) ρ2 => match ρ2[i]? with
      | some (.lstI ds) => match ixN ds.length k with
        | some j => .next (ρ2.set i (.lstI (ds.set j d)))
        | none => .bad
      | _ => .bad
    | _ => .bad
  | _, _ => .bad
/-! a name's own list, looked at -/
def dLenV (i : Nat) : DE := fun ρ => match ρ[i]? with
  | some (.lstI ds) => .ok (.imm false (.int ds.length)) ρ
  | some (.imm _ d) => match d.len? with
    | some n => .ok (.imm false (.int n)) ρ
    | none => .bad
  | some (.lst ts) => .ok (.imm false (.int ts.length)) ρ
  | _ => .bad
theorem se_lenV (i : Nat) {x : Str} {px p pos : Pos} (hm : X.mg "len" = none) (hg : Gl X "len" := by rfl) (hN : X.N[i]? = some x := by rfl) (hv : Vis X.env.scope x := by first | exact Or.inl rfl | exact Or.inr (Or.inl rfl) | exact Or.inr (Or.inr rfl))
    (hd : (x == ("__debug__" : Str)) = false := by decide) (hcd : (x == ("__classdict__" : Str)) = false := by decide) (he : starEach [.Name x px] X.env = (false, eval (.Name x px) X.env) :: starEach [] X.env := by rfl) (hpl : (backTo pos (starEach [] X.env)).any (·.1) = false := by rfl) :
    SE X ca W (.Call (.Name "len" p) [.Name x px] [] pos) (dLenV i) :=
  ⟨PE.imp (pe_callB call_len hg hm PySem.boot_len (pa_cons (pe_var hN hv hd hcd) pa_nil he) (by decide) (by decide) he hpl) fun σ H Q q => by
    obtain ⟨w, ρ, S, k⟩ := q
    unfold dLenV at k
    split at k
    · rename_i ds e0
      obtain ⟨p, vs, hp, hH, rd⟩ := S.atI e0
      exact ⟨_, hp, _, ds.length, rfl, .inl ⟨vs, .of hH, rd.length⟩, k w H _ .refl (S.cons_imm rfl)⟩
    · rename_i b d e0
      obtain ⟨v, hv', S1⟩ := S.move e0
      obtain ⟨y, rfl, r⟩ := S1.head_imm
      split at k
      · rename_i n hn
        exact ⟨_, hv', _, n, rfl, r.len hn, k w H _ .refl (S.cons_imm rfl)⟩
      · exact k.elim
    · rename_i ts e0
      obtain ⟨v, hv', S1⟩ := S.move e0
      obtain ⟨F, ⟨v0, r0, f1, f2, e, ⟨a, vs, f, e3, g, rd, rfl⟩, h2, rfl⟩, nd, out, tr, tb⟩ := S1
      injection e with e1 e2
      subst e1; subst e3
      exact ⟨_, hv', _, ts.length, rfl, .inl ⟨vs, .of g, by rw [rd.length, List.length_map]⟩, k w H _ .refl (S.cons_imm rfl)⟩
    · exact k.elim⟩
def dIxV (i : Nat) (db : DE) : DE := fun ρ => match ρ[i]? with
  | some (.lstI _) => (db ρ).bind fun y ρ1 => match ρ1[i]?, y with
    | some (.lstI ds), .imm _ (.int k) => match L2.atI ds k with
      | some d => .ok (.imm false d) ρ1
      | none => .bad
    | _, _ => .bad
  | some (.imm _ _) => (db ρ).bind fun y ρ1 => match ρ1[i]?, y with
    | some (.imm b d), .imm _ (.int k) => match gIx b d k with
      | some t => .ok t ρ1
      | none => .bad
    | _, _ => .bad
  | _ => .bad
theorem se_ixV (i : Nat) {x : Str} {b : Expr} {db : DE} {px pos : Pos} (hb : SE X ca W b db) (hs : PlainIx b := by exact fun _ _ => rfl) (hN : X.N[i]? = some x := by rfl) (hv : Vis X.env.scope x := by first | exact Or.inl rfl | exact Or.inr (Or.inl rfl) | exact Or.inr (Or.inr rfl))
    (hd : (x == ("__debug__" : Str)) = false := by decide) (hcd : (x == ("__classdict__" : Str)) = false := by decide) : SE X ca W (.Subscript (.Name x px) b pos) (dIxV i db) :=
  ⟨PE.imp (pe_ix ix_seq (pe_var hN hv hd hcd) hb.pe hs) fun σ H Q q => by
    obtain ⟨w, ρ, S, k⟩ := q
    unfold dIxV at k
    split at k
    · rename_i ds0 e0
      obtain ⟨p, vs, hp, hH, rd⟩ := S.atI e0
      refine ⟨_, hp, asideM (i := i) S k fun w1 H1 t ρ1 v S1 k1 => ?_⟩
      split at k1
      · rename_i ds b kk e1
        have ev := S1.head_int
        subst ev
        split at k1
        · rename_i d hd'
          obtain ⟨p', vs1, hp', hH1, rd1⟩ := S1.drop.atI e1
          rw [hp] at hp'
          cases hp'
          obtain ⟨z, hz, rz⟩ := rd1.atI hd'
          exact .inl ⟨p, vs1, kk, z, rfl, rfl, .of hH1, hz, k1 w1 H1 z .refl (S1.drop.cons_imm (RD_mono (fun a z => ⟨.inl z, rfl⟩) _ _ rz))⟩
        · exact k1.elim
      · exact k1.elim
    · rename_i b0 d0 e0
      obtain ⟨v0, hv0, S0⟩ := S.move e0
      obtain ⟨y0, rfl, r0⟩ := S0.head_imm
      refine ⟨_, hv0, asideM (i := i) S k fun w1 H1 t ρ1 v S1 k1 => ?_⟩
      split at k1
      · rename_i b d c kk e1
        have ev := S1.head_int
        subst ev
        split at k1
        · rename_i τ hτ
          obtain ⟨v1, hv1, S2⟩ := S1.drop.move e1
          rw [hv0] at hv1
          cases hv1
          exact ixS (C := ⟨X.K, ca⟩) S1.drop S2.head_rd hτ fun z S' => k1 w1 H1 z .refl S'
        · exact k1.elim
      · exact k1.elim
    · exact k.elim⟩
/-! comprehensions as values, and given to a name -/
theorem se_lc {elt tg iter : Expr} {ifs : List Expr} {scope : Scope} {own : List (Str × Nat)} {pos : Pos} {dg : DG} {di : DI} {dt : DT} {de : DE} (hc : X.calm = true) (hi : SI X ca W tg iter di) (B : Blk X ca scope own ch tg elt ifs dg dt de)
    (hs : ∀ x, foldedSetIterable iter X.env x = pure x := by intro _; rfl) : SE X ca W (.ListComp elt [⟨tg, iter, ifs, 0⟩] scope pos) (dLc (own.map (·.2)) dg di dt de) :=
  ⟨PE.imp (pe_lc hc B.nd hi.pi B.ok (fun s H C cl fp => (B.g s H C cl fp).pg) (fun s H C cl fp => (B.t s H C cl fp).pts) (fun s H C cl fp => (B.e s H C cl fp).pe) hs) fun σ H Q q => lcT B.ch q⟩
theorem ss_setLc {i : Nat} {y : Str} {py : Pos} {elt tg iter : Expr} {ifs : List Expr} {scope : Scope} {own : List (Str × Nat)} {pos spos : Pos} {dg : DG} {di : DI} {dt : DT} {de : DE} (hc : X.calm = true) (hi : SI X ca W tg iter di) (B : Blk X ca scope own ch tg elt ifs dg dt de)
    (hy : X.N[i]? = some y := by rfl) (hyl : X.env.scope.names.lookup y = some .local := by rfl) (hk : X.env.scope.kind = .function := by rfl) (hl : (py.line == pos.line) = true := by rfl) (ha : (scope.names.any fun (n, k) => n == y && (k == .local || k == .cell)) = false := by decide +kernel) (hp : i ∉ pn := by decide)
    (hs : ∀ x, foldedSetIterable iter X.env x = pure x := by intro _; rfl) : SS X ca W pn (.Assign [.Name y py] (.ListComp elt [⟨tg, iter, ifs, 0⟩] scope pos) spos) (dSet i (dLc (own.map (·.2)) dg di dt de)) :=
  ⟨PS.impL (ps_setLc hc B.nd hy hyl (sw_true hk hyl hl ha) hi.pi B.ok (fun s H C cl fp => (B.g s H C cl fp).pg) (fun s H C cl fp => (B.t s H C cl fp).pts) (fun s H C cl fp => (B.e s H C cl fp).pe) hs) fun En σ H l q =>
    show tLc _ _ _ _ _ σ H (fun x H1 => gName i x σ H1 En.nx) from lcT (W := W) B.ch (setS q (by rw [l]; exact (List.getElem?_eq_some_iff.mp hy).1) hp)⟩
/-! reversed, enumerate, zip -/
def revItems : T → List T → ER (Bool × List D)
  | .imm b (.lst ds), ρ => .ok (b, ds.reverse) ρ
  | .imm b (.tup ds), ρ => .ok (b, ds.reverse) ρ
  | _, _ => .bad
def diRev (de : DE) : DI := fun ρ => (de ρ).bind revItems
theorem rev_at {α : Type} {l : List α} {i : Nat} {d : α} (h : l.reverse[i]? = some d) : i < l.length ∧ l[l.length - 1 - i]? = some d := by
  have hi : i < l.length := by
    have := (List.getElem?_eq_some_iff.mp h).1
    simpa using this
  exact ⟨hi, by rw [List.getElem?_reverse hi] at h; exact h⟩
theorem walk_rev {a : Addr} {vs : List V} {b : Bool} {ds : List D} (h : LstAt C H (w.im b) a vs) (r : RDs C H (w.im b) ds vs) (hl : ds.length ≤ sizeLine) : Walk C w H (Itv C.K a vs.length) b ds.reverse where
  go := fun i w' H' hi A => by
    rw [List.length_reverse] at hi
    obtain ⟨d, hd⟩ : ∃ d, ds[ds.length - 1 - i]? = some d := ⟨ds[ds.length - 1 - i], List.getElem?_eq_getElem (by omega)⟩
    obtain ⟨v, hv, _⟩ := r.get hd
    rw [r.length] at hv
    exact ⟨by rw [← r.length]; exact hi, vs, v, (h.after A).sq, hv⟩
  yld := fun i d w' H' ρ σ x H'' hd A S ⟨e, q⟩ => by
    subst e
    obtain ⟨hi, hd⟩ := rev_at hd
    obtain ⟨v, hv, rv⟩ := r.get hd
    have e := q vs (h.after A).sq
    rw [r.length] at hv
    rw [hv] at e; cases e
    exact ⟨w', .refl, S.cons_imm (RD_mono A.im _ _ rv)⟩
  stop := fun w' H' A => by
    show vs.length ≤ _
    rw [List.length_reverse, r.length]; exact Nat.le_refl _
  line := by rw [List.length_reverse]; exact hl
theorem walk_revT {a : Addr} {vs : List V} {b : Bool} {ds : List D} (h : TupAt C H (w.im b) a vs) (r : RDs C H (w.im b) ds vs) (hl : ds.length ≤ sizeLine) : Walk C w H (_root_.RT.ItvT C.K a vs.length) b ds.reverse where
  go := fun i w' H' hi A => by
    rw [List.length_reverse] at hi
    obtain ⟨d, hd⟩ : ∃ d, ds[ds.length - 1 - i]? = some d := ⟨ds[ds.length - 1 - i], List.getElem?_eq_getElem (by omega)⟩
    obtain ⟨v, hv, _⟩ := r.get hd
    rw [r.length] at hv
    exact ⟨by rw [← r.length]; exact hi, vs, v, (h.after A).sq, hv⟩
  yld := fun i d w' H' ρ σ x H'' hd A S ⟨e, q⟩ => by
    subst e
    obtain ⟨hi, hd⟩ := rev_at hd
    obtain ⟨v, hv, rv⟩ := r.get hd
    have e := q vs (h.after A).sq
    rw [r.length] at hv
    rw [hv] at e; cases e
    exact ⟨w', .refl, S.cons_imm (RD_mono A.im _ _ rv)⟩
  stop := fun w' H' A => by
    show vs.length ≤ _
    rw [List.length_reverse, r.length]; exact Nat.le_refl _
  line := by rw [List.length_reverse]; exact hl
/-- the line of a list that stands, from the state that holds it -/
theorem si_rev {tg e : Expr} {de : DE} {p pos : Pos} (hm : X.mg "reversed" = none) (he : SE X ca W e de) (hg : Gl X "reversed" := by rfl) (hs : starEach [e] X.env = (false, eval e X.env) :: starEach [] X.env := by rfl) : SI X ca W tg (.Call (.Name "reversed" p) [e] [] pos) (diRev de) := by
  refine ⟨⟨fun pins s σ H R I q => ?_⟩⟩
  have key : ∀ (a : Addr) (xs : List V) (H1 : Hp) (s1 : Shared), Inv X pins σ H1 s1 → (SqL X.K H1 a xs ∨ SqT X.K H1 a xs) → xs.length ≤ sizeLine := fun a xs H1 s1 I1 z => z.elim (Inv.lineL I1) (Inv.lineT I1)
  refine (_root_.RT.pi_revA (te := fun σ H Q => tE ⟨X.K, ca⟩ W de σ H fun v H1 => (∀ a xs, (SqL X.K H1 a xs ∨ SqT X.K H1 a xs) → xs.length ≤ sizeLine) → Q v H1) hg hm ⟨fun pins s σ H Q I q => thn (he.pe.run pins s σ H _ I q) fun v s1 ⟨x, H1, I1, r1, q1⟩ => ⟨x, H1, I1, r1, q1 fun a xs z => z.elim (Inv.lineL I1) (Inv.lineT I1)⟩⟩ hs).run pins s σ H R I ?_
  refine exI q fun w H t ρ v S k line => ?_
  cases t with
  | imm b d =>
    cases d with
    | lst ds =>
      obtain ⟨x, ex, a, vs, rfl, la, rd⟩ := S.head_imm
      cases ex
      exact ⟨a, vs, rfl, .inl ⟨.of la.2, k w H _ .refl S.drop (walk_rev (.inl ⟨la.1, .of la.2⟩) rd (by rw [rd.length]; exact line a vs (.inl (.of la.2))))⟩⟩
    | tup ds =>
      obtain ⟨x, ex, a, vs, rfl, la, rd⟩ := S.head_imm
      cases ex
      exact ⟨a, vs, rfl, .inr ⟨.of la.2, k w H _ .refl S.drop (walk_revT (.inl ⟨la.1, .of la.2⟩) rd (by rw [rd.length]; exact line a vs (.inr (.of la.2))))⟩⟩
    | _ => exact (show False from k).elim
  | _ => exact (show False from k).elim
end
end Gb

namespace Gb
open PySem PySem.Spec L2
open PyProof.Rows (envOfC)
section
variable {C : Ct} {W : WX} {pn ch : List Nat} {w w' : Wd} {H H' : Hp} {σ σ' : L2.St} {En : Ends} {X : Cx} {ca : Cad} {ρ : List T} {t u : T} {v x : Option V}
theorem takes_WF {X : Cx} : Takes X WF := fun u s' ⟨_, _, _, _, _, _, _, _, _, _, _, _, _, _, _, _, w⟩ => w.elim
/-! what is never reached -/
def dsBad : DS := fun _ => .bad
theorem ss_bad {st : Stmt} : SS X ca W pn st dsBad := ⟨⟨fun pins s σ H D I q => by
  obtain ⟨w, ρ, S, k⟩ := q
  exact k.elim⟩⟩
theorem fn_bad {P : Program} {wd : World} {K : PySem.W.Frag} {mg : Str → Option Value} {base : Heap} {CX : CXT} {k : Nat} {f : Addr} {fd : FuncData} {ps : List Str} : FnG P wd K mg base CX k f fd ps (spF C fun _ => .bad) :=
  ⟨fun _ _ _ _ ⟨_, _, _, z⟩ => z.elim, fun _ _ _ _ _ _ _ _ _ _ _ _ _ ⟨_, _, _, z⟩ => z.elim⟩
end
theorem Cal.mk0 {P : Program} {wd : World} {K : PySem.W.Frag} {mg : Str → Option Value} {base : Heap} {ca : Cad} {k : Nat} {x qual : Str} {st : Stmt} {f : Addr} {fd : FuncData} {ps : List Str} {Fn : FnT} (F : Fun K x qual st f fd)
    (ok : FnG P wd K mg base (L2.CX P wd) k f fd ps (spF ⟨K, ca⟩ Fn)) (hm : mg x = some (.ref f)) (b : Binds K fd ps []) : Cal P wd K mg base ca k x [] Fn :=
  ⟨⟨f, fd, ps, [], [], ok, hm, F.kp, b, .nil, fun _ _ => rfl⟩⟩
/-- the law's def answers True -/
def LawTrue (Fn : FnT) : Prop := ∀ ns : List Int, ns.length ≤ 63 → ∃ b, Fn [.imm false (.scr ns)] = .ok (.imm b (.bl true))
theorem law_walk {l : PySem.W.OpenLaw} {k : Nat} {q : Program} {loose : List Str} {XP : (Str → Option Value) → Heap → Prop} {YP : World → Heap → Prop} {d : DefRec} {Kp : Params → PySem.W.Frag} {ca : Cad} {x : Str} {Fn : FnT}
    (main : LawTrue Fn) (hT0 : ca.T = []) (hn : l.most = some 63) (hdf : d.params.defaults = []) (hr : Room k callerA) (hY : ∀ (w : World) (h : Heap), YP w h → (Kp w.params).In h)
    (F : ∀ (w : World) (mg : Str → Option Value) (fa : Addr) (h : Heap), (Kp w.params).In h → h.Ns mainGlobals mg → mg d.name = some (.ref fa) →
      ∃ fd : FuncData, (∀ (s : Shared) (u : Value), BindsTo s fd ⟨[u], []⟩ [(x, u)]) ∧
        ∀ base : Heap, (Kp w.params).In base → base.Ns mainGlobals mg → FnG l.prog w (Kp w.params) mg base (L2.CX l.prog w) k fa fd [x] (spF ⟨Kp w.params, ca⟩ Fn)) :
    PySem.W.WalkO q loose XP YP l.row.toRowW d [] (fun f vs => PySem.call f vs) := by
  refine walk_ofG (K := Kp) (CX := fun w => L2.CX l.prog w) (sp := fun w => spF ⟨Kp w.params, ca⟩ Fn) hn (by decide) hdf ⟨hr, rfl⟩ hY F (fun w H a ns hl hO hS => ?_) (fun w H s e s' h => ?_)
  · obtain ⟨b, e⟩ := main ns hl
    refine ⟨⟨fun z => z = a ∧ noT (H z) = true, fun _ => False, fun _ => False⟩, [.imm false (.scr ns)], ⟨[], ⟨some (.ref a), [], [], [], rfl, ⟨.ref a, rfl, ⟨a, rfl, ?_⟩, rfl⟩, ⟨rfl, rfl⟩, rfl⟩, by simp, fun z hz => by simp at hz, fun z hz => ?_, by show LamX.Tabs ca.T H; rw [hT0]; exact fun p hp => absurd hp (by simp)⟩, ?_⟩
    · rcases hS with hS | hS
      · refine .inl ⟨.inl ⟨rfl, ?_⟩, hS⟩
        rcases hS with hS | ⟨o, hS⟩
        · rw [hS]; rfl
        · rw [hS]; rfl
      · exact .inr hS
    · rcases hz with ⟨_, z2⟩ | z | z
      · exact z2
      · exact z.elim
      · exact z.elim
    · rw [e]
      intro w' H' v A S
      obtain ⟨y, ey, r⟩ := S.head_imm
      cases ey
      exact r
  · obtain ⟨_, _, _, _, _, _, _, _, _, _, _, _, z⟩ := h
    exact z
end Gb

namespace Gb
open PySem PySem.Spec L2

abbrev oSub : T → T → DE := fS (gInt fun i j => some (i - j))
abbrev oDiv : T → T → DE := fS (gInt divI)
abbrev oMod : T → T → DE := fS (gInt modI)
abbrev oPow : T → T → DE := fS (gInt powI)
abbrev oShl : T → T → DE := fS (gInt shlI)
abbrev oOr : T → T → DE := fS (gInt fun i j => some (Builtin.bitOr i j))
abbrev oEq : T → T → DE := fS gEq
abbrev oNe : T → T → DE := fS gNe
abbrev oLt : T → T → DE := fS (gCmp fun i j => decide (i < j))
abbrev oLe : T → T → DE := fS (gCmp fun i j => decide (i ≤ j))
abbrev oGt : T → T → DE := fS (gCmp fun i j => decide (j < i))
abbrev oIs : T → T → DE := fS gIs
abbrev oIsNot : T → T → DE := fS gIsNot
/-! plain laws about what is denoted: loops -/
section
variable {dg : DG} {body : DS} {b : Bool} {P : Nat → List T → Prop}
/-- one turn of a for loop that goes on -/
def Goes (dg : DG) (body : DS) (b : Bool) (d : D) (ρ : List T) (R : List T → Prop) : Prop := ∃ ρ1 ρ2, dg (.imm b d) ρ = some ρ1 ∧ (body ρ1 = .next ρ2 ∨ body ρ1 = .cont ρ2) ∧ R ρ2
theorem forL_at : ∀ (ds : List D) (k : Nat) (ρ : List T), P k ρ → (∀ (i : Nat) (d : D) (ρ : List T), ds[i]? = some d → P (k + i) ρ → Goes dg body b d ρ (P (k + i + 1))) → ∃ ρ', forL dg body b ds ρ = .next ρ' ∧ P (k + ds.length) ρ'
  | [], k, ρ, h, _ => ⟨ρ, rfl, h⟩
  | d :: ds, k, ρ, h, hs => by
    obtain ⟨ρ1, ρ2, e1, e2, h2⟩ := hs 0 d ρ rfl h
    obtain ⟨ρ', e3, h3⟩ := forL_at ds (k + 1) ρ2 h2 fun i d ρ hd hp => by
      have q := hs (i + 1) d ρ (by simpa using hd) (by rw [show k + (i + 1) = k + 1 + i by omega]; exact hp)
      rw [show k + (i + 1) + 1 = k + 1 + i + 1 by omega] at q
      exact q
    refine ⟨ρ', ?_, by rw [List.length_cons, show k + (ds.length + 1) = k + 1 + ds.length by omega]; exact h3⟩
    unfold forL
    simp only [e1]
    rcases e2 with e2 | e2
    · simp only [e2, e3]
    · simp only [e2, e3]
theorem forL_list {ds : List D} {ρ : List T} (h : P 0 ρ) (hs : ∀ (i : Nat) (d : D) (ρ : List T), ds[i]? = some d → P i ρ → Goes dg body b d ρ (P (i + 1))) : ∃ ρ', forL dg body b ds ρ = .next ρ' ∧ P ds.length ρ' := by
  have q := forL_at (dg := dg) (body := body) (b := b) (P := P) ds 0 ρ h fun i d ρ hd hp => by
    simp only [Nat.zero_add] at hp ⊢
    exact hs i d ρ hd hp
  simpa using q
@[simp] theorem rangeD_length {lo : Int} {n : Nat} : (rangeD lo n).length = n := by simp [rangeD]
theorem rangeD_at {lo : Int} {n i : Nat} {d : D} (h : (rangeD lo n)[i]? = some d) : i < n ∧ d = .int (lo + i) := by
  unfold rangeD at h
  rw [List.getElem?_map] at h
  by_cases hi : i < n
  · rw [List.getElem?_range hi] at h
    exact ⟨hi, by simpa using h.symm⟩
  · rw [List.getElem?_eq_none (by simpa using hi)] at h
    simp at h
theorem forL_range {lo : Int} {n : Nat} {ρ : List T} (h : P 0 ρ) (hs : ∀ (i : Nat) (ρ : List T), i < n → P i ρ → Goes dg body b (.int (lo + i)) ρ (P (i + 1))) : ∃ ρ', forL dg body b (rangeD lo n) ρ = .next ρ' ∧ P n ρ' := by
  have q := forL_list (dg := dg) (body := body) (b := b) (P := P) (ds := rangeD lo n) h fun i d ρ hd hp => by
    obtain ⟨hi, rfl⟩ := rangeD_at hd
    exact hs i ρ hi hp
  simpa using q
end
theorem forL_fold {α τ : Type} {f : α → D} {g : τ → α → τ} {dg : DG} {body : DS} {b : Bool} {R : τ → List T → Prop} : ∀ (xs : List α) (s : τ) (ρ : List T), R s ρ → (∀ (a : α) (s : τ) (ρ : List T), a ∈ xs → R s ρ → Goes dg body b (f a) ρ (R (g s a))) →
    ∃ ρ', forL dg body b (xs.map f) ρ = .next ρ' ∧ R (xs.foldl g s) ρ'
  | [], s, ρ, h, _ => ⟨ρ, rfl, h⟩
  | a :: xs, s, ρ, h, hs => by
    obtain ⟨ρ1, ρ2, e1, e2, h2⟩ := hs a s ρ (by simp) h
    obtain ⟨ρ', e3, h3⟩ := forL_fold xs (g s a) ρ2 h2 fun a s ρ ha => hs a s ρ (by simp [ha])
    refine ⟨ρ', ?_, h3⟩
    rw [List.map_cons]
    unfold forL
    simp only [e1]
    rcases e2 with e2 | e2
    · simp only [e2, e3]
    · simp only [e2, e3]
theorem forL_pre {α : Type} {f : α → D} {dg : DG} {body : DS} {b : Bool} {P : List α → List T → Prop} : ∀ (post pre : List α) (ρ : List T), P pre ρ → (∀ (p q : List α) (a : α) (ρ : List T), pre ++ post = p ++ a :: q → P p ρ → Goes dg body b (f a) ρ (P (p ++ [a]))) →
    ∃ ρ', forL dg body b (post.map f) ρ = .next ρ' ∧ P (pre ++ post) ρ'
  | [], pre, ρ, h, _ => ⟨ρ, rfl, by rw [List.append_nil]; exact h⟩
  | a :: post, pre, ρ, h, hs => by
    obtain ⟨ρ1, ρ2, e1, e2, h2⟩ := hs pre post a ρ rfl h
    have ea : pre ++ a :: post = (pre ++ [a]) ++ post := by simp
    obtain ⟨ρ', e3, h3⟩ := forL_pre (f := f) (dg := dg) (body := body) (b := b) post (pre ++ [a]) ρ2 h2 fun p q a ρ e => hs p q a ρ (by rw [ea]; exact e)
    refine ⟨ρ', ?_, by rw [ea]; exact h3⟩
    rw [List.map_cons]
    unfold forL
    simp only [e1]
    rcases e2 with e2 | e2
    · simp only [e2, e3]
    · simp only [e2, e3]
/-- a loop over xs, the items taken so far in the invariant -/
theorem forL_take {α : Type} {f : α → D} {dg : DG} {body : DS} {b : Bool} {P : List α → List T → Prop} {xs : List α} {ρ : List T} (h : P [] ρ) (hs : ∀ (p q : List α) (a : α) (ρ : List T), xs = p ++ a :: q → P p ρ → Goes dg body b (f a) ρ (P (p ++ [a]))) :
    ∃ ρ', forL dg body b (xs.map f) ρ = .next ρ' ∧ P xs ρ' := forL_pre xs [] ρ h hs
/-! comprehensions -/
section
variable {dg : DG} {dt : DT} {de : DE} {own : List Nat} {b : Bool} {P : List T → Prop}
/-- one turn that keeps an item -/
def Makes (dg : DG) (dt : DT) (de : DE) (own : List Nat) (b : Bool) (d e : D) (ρ : List T) (R : List T → Prop) : Prop := ∃ ρ1 ρ2 t ρ3, dg (.imm b d) ρ = some ρ1 ∧ dt ρ1 = .ok true ρ2 ∧ de ρ2 = .ok t ρ3 ∧ t.frz = some (false, e) ∧ R (killL own ρ3)
/-- one turn that keeps none -/
def Skips (dg : DG) (dt : DT) (own : List Nat) (b : Bool) (d : D) (ρ : List T) (R : List T → Prop) : Prop := ∃ ρ1 ρ2, dg (.imm b d) ρ = some ρ1 ∧ dt ρ1 = .ok false ρ2 ∧ R (killL own ρ2)
theorem compL_pick {p : D → Bool} {f : D → D} : ∀ (ds : List D) (ρ : List T), P ρ → (∀ (d : D) (ρ : List T), d ∈ ds → P ρ → if p d = true then Makes dg dt de own b d (f d) ρ P else Skips dg dt own b d ρ P) → ∃ ρ', compL dg dt de own b ds ρ = .ok ((ds.filter p).map f) ρ' ∧ P ρ'
  | [], ρ, h, _ => ⟨ρ, rfl, h⟩
  | d :: ds, ρ, h, hs => by
    have q := hs d ρ (by simp) h
    cases hp : p d with
    | true =>
      rw [if_pos hp] at q
      obtain ⟨ρ1, ρ2, t, ρ3, e1, e2, e3, e4, h3⟩ := q
      obtain ⟨ρ', e5, h5⟩ := compL_pick ds _ h3 fun d ρ hd => hs d ρ (by simp [hd])
      refine ⟨ρ', ?_, h5⟩
      unfold compL
      simp only [e1, e2, e3, e4, e5, List.filter_cons, hp, if_true, List.map_cons]
    | false =>
      rw [if_neg (by rw [hp]; simp)] at q
      obtain ⟨ρ1, ρ2, e1, e2, h3⟩ := q
      obtain ⟨ρ', e5, h5⟩ := compL_pick ds _ h3 fun d ρ hd => hs d ρ (by simp [hd])
      refine ⟨ρ', ?_, h5⟩
      unfold compL
      simp only [e1, e2, e5, List.filter_cons, hp]
      rfl
theorem compL_map {f : D → D} {ds : List D} {ρ : List T} (h : P ρ) (hs : ∀ (d : D) (ρ : List T), d ∈ ds → P ρ → Makes dg dt de own b d (f d) ρ P) : ∃ ρ', compL dg dt de own b ds ρ = .ok (ds.map f) ρ' ∧ P ρ' := by
  have q := compL_pick (p := fun _ => true) (f := f) ds ρ h fun d ρ hd hp => by
    rw [if_pos rfl]; exact hs d ρ hd hp
  rw [List.filter_eq_self.mpr (by simp)] at q
  exact q
theorem compL_at {f : Nat → D} : ∀ (ds : List D) (k : Nat) (ρ : List T), P ρ → (∀ (i : Nat) (d : D) (ρ : List T), ds[i]? = some d → P ρ → Makes dg dt de own b d (f (k + i)) ρ P) → ∃ ρ', compL dg dt de own b ds ρ = .ok ((List.range' k ds.length).map f) ρ' ∧ P ρ'
  | [], k, ρ, h, _ => ⟨ρ, rfl, h⟩
  | d :: ds, k, ρ, h, hs => by
    obtain ⟨ρ1, ρ2, t, ρ3, e1, e2, e3, e4, h3⟩ := hs 0 d ρ rfl h
    obtain ⟨ρ', e5, h5⟩ := compL_at ds (k + 1) _ h3 fun i d ρ hd hp => by
      have q := hs (i + 1) d ρ (by simpa using hd) hp
      rw [show k + (i + 1) = k + 1 + i by omega] at q
      exact q
    refine ⟨ρ', ?_, h5⟩
    unfold compL
    simp only [e1, e2, e3, e4, e5, List.length_cons, List.range'_succ, List.map_cons, Nat.add_zero]
theorem compL_range {lo : Int} {n : Nat} {f : Nat → D} {ρ : List T} (h : P ρ) (hs : ∀ (i : Nat) (ρ : List T), i < n → P ρ → Makes dg dt de own b (.int (lo + i)) (f i) ρ P) : ∃ ρ', compL dg dt de own b (rangeD lo n) ρ = .ok ((List.range n).map f) ρ' ∧ P ρ' := by
  have q := compL_at (f := f) (dg := dg) (dt := dt) (de := de) (own := own) (b := b) (P := P) (rangeD lo n) 0 ρ h fun i d ρ hd hp => by
    obtain ⟨hi, rfl⟩ := rangeD_at hd
    rw [Nat.zero_add]
    exact hs i ρ hi hp
  rw [rangeD_length, ← List.range_eq_range'] at q
  exact q
theorem compL_mapf {α : Type} {f g : α → D} : ∀ (xs : List α) (ρ : List T), P ρ → (∀ (a : α) (ρ : List T), a ∈ xs → P ρ → Makes dg dt de own b (f a) (g a) ρ P) → ∃ ρ', compL dg dt de own b (xs.map f) ρ = .ok (xs.map g) ρ' ∧ P ρ'
  | [], ρ, h, _ => ⟨ρ, rfl, h⟩
  | a :: xs, ρ, h, hs => by
    obtain ⟨ρ1, ρ2, t, ρ3, e1, e2, e3, e4, h3⟩ := hs a ρ (by simp) h
    obtain ⟨ρ', e5, h5⟩ := compL_mapf xs _ h3 fun a ρ ha => hs a ρ (by simp [ha])
    refine ⟨ρ', ?_, h5⟩
    rw [List.map_cons, List.map_cons]
    unfold compL
    simp only [e1, e2, e3, e4, e5]
end
/-! values -/
mutual
/-- plain data, lists and tuples at most n deep in one another -/
def D.pl : D → Nat → Bool
  | .non, _ => true
  | .bl _, _ => true
  | .int _, _ => true
  | .str s, _ => PyData.strOk s
  | .lst xs, n => match n with
    | 0 => false
    | m + 1 => decide (xs.length < 16777216) && D.pls xs m
  | .tup xs, n => match n with
    | 0 => false
    | m + 1 => decide (xs.length < 16777216) && D.pls xs m
  | .scr _, _ => false
  | .ty _, _ => false
  | .dic _ _, _ => false
  | .obj _ _ _, _ => false
  | .exn _ _ _ _, _ => false
  | .exv _ _ _, _ => false
def D.pls : List D → Nat → Bool
  | [], _ => true
  | d :: ds, n => d.pl n && D.pls ds n
end
mutual
theorem pl_spec : (d : D) → (n : Nat) → d.pl n = true → ∃ p, d.py = some p ∧ p.canLay0 = true ∧ p.depth ≤ n ∧ PyData.eqv p p = true
  | .non, n, _ => ⟨.none, rfl, by simp [PyData.canLay0], by simp [PyData.depth], by simp [PyData.eqv]⟩
  | .bl b, n, _ => ⟨.bool b, rfl, by simp [PyData.canLay0], by simp [PyData.depth], by simp [PyData.eqv]⟩
  | .int i, n, _ => ⟨.int i, rfl, by simp [PyData.canLay0], by simp [PyData.depth], by simp [PyData.eqv]⟩
  | .str s, n, h => ⟨.str s, rfl, by simpa [PyData.canLay0, D.pl] using h, by simp [PyData.depth], by simp [PyData.eqv]⟩
  | .lst xs, 0, h => by cases h
  | .lst xs, n + 1, h => by
    obtain ⟨ps, e, h1, h2, h3⟩ := pls_spec xs n (Bool.and_eq_true_iff.mp (show (decide (xs.length < 16777216) && D.pls xs n) = true from h)).2
    exact ⟨.list ps, by simp [D.py, e], by simpa [PyData.canLay0] using h1, by simp only [PyData.depth]; omega, by simpa [PyData.eqv] using h3⟩
  | .tup xs, 0, h => by cases h
  | .tup xs, n + 1, h => by
    obtain ⟨ps, e, h1, h2, h3⟩ := pls_spec xs n (Bool.and_eq_true_iff.mp (show (decide (xs.length < 16777216) && D.pls xs n) = true from h)).2
    exact ⟨.tuple ps, by simp [D.py, e], by simpa [PyData.canLay0] using h1, by simp only [PyData.depth]; omega, by simpa [PyData.eqv] using h3⟩
  | .scr _, _, h => by cases h
  | .ty _, _, h => by cases h
  | .dic _ _, _, h => by cases h
  | .obj _ _ _, _, h => by cases h
  | .exn _ _ _ _, _, h => by cases h
  | .exv _ _ _, _, h => by cases h
theorem pls_spec : (ds : List D) → (n : Nat) → D.pls ds n = true → ∃ ps, D.pys ds = some ps ∧ PyData.canLayAll0 ps = true ∧ PyData.depthAll ps ≤ n ∧ PyData.eqvAll ps ps = true
  | [], n, _ => ⟨[], rfl, by simp [PyData.canLayAll0], by simp [PyData.depthAll], by simp [PyData.eqvAll]⟩
  | d :: ds, n, h => by
    have h' : (d.pl n && D.pls ds n) = true := h
    rw [Bool.and_eq_true] at h'
    obtain ⟨p, e, h1, h2, h3⟩ := pl_spec d n h'.1
    obtain ⟨ps, e', g1, g2, g3⟩ := pls_spec ds n h'.2
    exact ⟨p :: ps, by simp [D.pys, e, e'], by simp [PyData.canLayAll0, h1, g1], by simp only [PyData.depthAll]; omega, by simp [PyData.eqvAll, h3, g3]⟩
end
theorem eqv_self {d : D} {n : Nat} (h : d.pl n = true) (hn : n ≤ 64) : D.eqv d d = some true := by
  obtain ⟨p, e, h1, h2, h3⟩ := pl_spec d n h
  have s : SeqAt.shaped p = true := by
    unfold SeqAt.shaped
    rw [h1, Bool.true_and]
    exact decide_eq_true (by omega)
  simp [D.eqv, e, s, h3]
theorem pls_of {ds : List D} {n : Nat} (h : ∀ d ∈ ds, d.pl n = true) : D.pls ds n = true := by
  induction ds with
  | nil => rfl
  | cons d ds ih =>
    show (d.pl n && D.pls ds n) = true
    rw [Bool.and_eq_true]
    exact ⟨h d (by simp), ih fun e he => h e (by simp [he])⟩
theorem pls_at : ∀ {ds : List D} {n : Nat}, D.pls ds n = true → ∀ d ∈ ds, d.pl n = true
  | d :: ds, n, h, e, he => by
    have h' : (d.pl n && D.pls ds n) = true := h
    rw [Bool.and_eq_true] at h'
    rcases List.mem_cons.mp he with rfl | he
    · exact h'.1
    · exact pls_at h'.2 e he
theorem pl_tup {ds : List D} {n : Nat} (l : ds.length < 16777216) (h : ∀ d ∈ ds, d.pl n = true) : (D.tup ds).pl (n + 1) = true := by
  show (decide (ds.length < 16777216) && D.pls ds n) = true
  rw [decide_eq_true l, pls_of h]; rfl
theorem pl_lst_inv {ds : List D} {n : Nat} (h : (D.lst ds).pl (n + 1) = true) : ds.length < 16777216 ∧ ∀ d ∈ ds, d.pl n = true := by
  have h' : (decide (ds.length < 16777216) && D.pls ds n) = true := h
  rw [Bool.and_eq_true] at h'
  exact ⟨of_decide_eq_true h'.1, pls_at h'.2⟩
theorem pl_tup_inv {ds : List D} {n : Nat} (h : (D.tup ds).pl (n + 1) = true) : ds.length < 16777216 ∧ ∀ d ∈ ds, d.pl n = true := by
  have h' : (decide (ds.length < 16777216) && D.pls ds n) = true := h
  rw [Bool.and_eq_true] at h'
  exact ⟨of_decide_eq_true h'.1, pls_at h'.2⟩
@[simp] theorem shaped_int (i : Int) : SeqAt.shaped (.int i) = true := by simp [SeqAt.shaped, PyData.canLay0, PyData.depth]
@[simp] theorem shaped_none : SeqAt.shaped .none = true := by simp [SeqAt.shaped, PyData.canLay0, PyData.depth]
@[simp] theorem shaped_bool (b : Bool) : SeqAt.shaped (.bool b) = true := by simp [SeqAt.shaped, PyData.canLay0, PyData.depth]
@[simp] theorem eqv_int (i j : Int) : D.eqv (.int i) (.int j) = some (decide (i = j)) := by
  simp [D.eqv, D.py, PyData.eqv]
  by_cases h : i = j
  · simp [h]
  · simp [h]
@[simp] theorem eqv_non_int (j : Int) : D.eqv .non (.int j) = some false := by simp [D.eqv, D.py, PyData.eqv]
@[simp] theorem eqv_int_non (j : Int) : D.eqv (.int j) .non = some false := by simp [D.eqv, D.py, PyData.eqv]
@[simp] theorem eqv_non : D.eqv .non .non = some true := by simp [D.eqv, D.py, PyData.eqv]
@[simp] theorem eqv_bl (a b : Bool) : D.eqv (.bl a) (.bl b) = some (a == b) := by simp [D.eqv, D.py, PyData.eqv]
end Gb

namespace Gb
open PySem PySem.Spec L2
/-! a name's own thing, lent for an expression -/
mutual
def noB : T → Bool
  | .dead => true
  | .imm b _ => !b
  | .lstI _ => true
  | .lst ts => noBs ts
  | .dicI _ _ => true
  | .dic _ _ => true
  | .dkt _ => true
  | .obj _ _ ts => noBs ts
  | .bag _ ts => noBs ts
  | .tup ts => noBs ts
  | .dct _ ts => noBs ts
def noBs : List T → Bool
  | [] => true
  | t :: ts => noB t && noBs ts
end
section
variable {C : Ct} {W : WX} {w w' : Wd} {H H' : Hp} {ρ ρ' : List T} {σ σ' : L2.St} {t : T} {v : Option V}
mutual
theorem RT_noB (e : w'.I = w.I) : (t : T) → (v : Option V) → (fp : List Addr) → noB t = true → RT C w H t v fp → RT C w' H t v fp
  | .dead, _, _, _, h => h
  | .imm b d, v, fp, n, h => by
    obtain ⟨x, e1, r, f⟩ := h
    have hb : b = false := by
      unfold noB at n
      cases b with
      | true => cases n
      | false => rfl
    subst hb
    exact ⟨x, e1, RD_mono (fun a z => ⟨.inl (by rw [e]; exact im_false z), rfl⟩) _ _ r, f⟩
  | .lstI ds, v, fp, n, h => by
    obtain ⟨a, vs, e1, g, r, f⟩ := h
    exact ⟨a, vs, e1, g, by rw [e]; exact r, f⟩
  | .lst ts, v, fp, n, h => by
    obtain ⟨a, vs, f, e1, g, r, ef⟩ := h
    exact ⟨a, vs, f, e1, g, RTs_noB e ts _ f n r, ef⟩
  | .dicI ks ds, v, fp, n, h => by
    obtain ⟨a, kvs, e1, g, q, r, f⟩ := h
    exact ⟨a, kvs, e1, g, q, by rw [e]; exact r, f⟩
  | .dkt ks, v, fp, n, h => h
  | .dic ks ds, v, fp, n, h => by
    obtain ⟨a, kvs, e1, g, q, r, f⟩ := h
    exact ⟨a, kvs, e1, g, q, by rw [e]; exact r, f⟩
  | .obj c ns ts, v, fp, n, h => by
    obtain ⟨a, dx, fs, f, e1, g, g2, q, r, ef⟩ := h
    exact ⟨a, dx, fs, f, e1, g, g2, q, RTs_noB e ts _ f n r, ef⟩
  | .bag as ts, v, fp, n, h => RTs_noB e ts _ fp n h
  | .tup ts, v, fp, n, h => by
    obtain ⟨a, vs, f, e1, g, r, ef⟩ := h
    exact ⟨a, vs, f, e1, g, RTs_noB e ts _ f n r, ef⟩
  | .dct ks ts, v, fp, n, h => by
    obtain ⟨a, kvs, f, e1, g, q, r, ef⟩ := h
    exact ⟨a, kvs, f, e1, g, q, RTs_noB e ts _ f n r, ef⟩
theorem RTs_noB (e : w'.I = w.I) : (ts : List T) → (vs : List (Option V)) → (fp : List Addr) → noBs ts = true → RTs C w H ts vs fp → RTs C w' H ts vs fp
  | [], _, _, _, h => h
  | t :: ts, vs, fp, n, h => by
    obtain ⟨v, r, f1, f2, e1, h1, h2, ef⟩ := h
    have n' : (noB t && noBs ts) = true := n
    rw [Bool.and_eq_true] at n'
    exact ⟨v, r, f1, f2, e1, RT_noB e t v f1 n'.1 h1, RTs_noB e ts r f2 n'.2 h2, ef⟩
end
/-- slot i is lent; what comes back -/
theorem Stt.lend {i : Nat} {b : Bool} {d : D} (h : Stt C w H ρ σ) (hi : ρ[i]? = some t) (e : t.frz = some (b, d)) : ∃ w2 : Wd, w2.I = w.I ∧ Stt C w2 H (ρ.set i (.imm true d)) σ ∧
    ∀ (w' : Wd) (H' : Hp) (pre : List T) (vs : L2.St) (ρ' : List T), pre.length = vs.length → ρ'.length = ρ.length → After w2 H w' H' → Stt C w' H' (pre ++ ρ') (vs ++ σ) → noBs (pre ++ ρ'.set i t) = true → ∃ w'', w''.I = w'.I ∧ After w H w'' H' ∧ Stt C w'' H' (pre ++ ρ'.set i t) (vs ++ σ) := by
  obtain ⟨F, rt, nd, out, tr, tb⟩ := h
  obtain ⟨v, f1, fp, f2, hv, h1, rfl, put⟩ := rt.at hi
  obtain ⟨x, rfl, hx⟩ := RT_frz _ _ _ _ _ h1 e
  have nd2 := List.nodup_append.mp nd
  have nd3 := List.nodup_append.mp nd2.1
  have hs : ∀ a ∈ fp, a ∈ f1 ++ fp ++ f2 := fun a ha => List.mem_append_left _ (List.mem_append_right _ ha)
  refine ⟨⟨w.I, fun a => w.B a ∨ a ∈ fp, w.R⟩, rfl, ⟨f1 ++ f2, ?_, ?_, fun a ha => ?_, fun a z => ?_, tb⟩, fun w' H' pre vs ρ' lp lr A S nb => ?_⟩
  · have q : RTs C w H (ρ.set i .dead) (σ.set i (some x)) (f1 ++ [] ++ f2) := put .dead (some x) [] rfl
    rw [set_same hv] at q
    have q' : RTs C ⟨w.I, fun a => w.B a ∨ a ∈ fp, w.R⟩ H (ρ.set i .dead) σ (f1 ++ [] ++ f2) := RTs_mono (w := w) (w' := ⟨w.I, fun a => w.B a ∨ a ∈ fp, w.R⟩) (H := H) (fun a z => ⟨z, rfl⟩) (fun a z => ⟨.inl z, rfl⟩) _ _ _ (fun _ _ => rfl) q
    have hi2 : (ρ.set i .dead)[i]? = some .dead := by
      rw [List.getElem?_set_self]
      exact (List.getElem?_eq_some_iff.mp hi).1
    obtain ⟨v2, g1, gp, g2, hv2, h2, eg, put2⟩ := q'.at hi2
    rw [hv] at hv2
    have ev : v2 = some x := (Option.some.inj hv2).symm
    subst ev
    have egp : gp = [] := h2
    subst egp
    have z := put2 (.imm true d) (some x) [] ⟨x, rfl, RD_mono (fun a z => ⟨?_, rfl⟩) _ _ hx, rfl⟩
    · rw [set_same hv, List.set_set] at z
      have eg' : g1 ++ [] ++ g2 = f1 ++ f2 := by rw [← eg]; simp
      rw [eg'] at z
      exact z
    · rcases z with (z | z) | ⟨_, z⟩
      · exact .inl z
      · exact .inr ⟨rfl, .inr z⟩
      · exact .inr ⟨rfl, .inl z⟩
  · exact List.nodup_append.mpr ⟨nd3.1, nd2.2.1, fun a ha b hb => nd2.2.2 a (List.mem_append_left _ ha) b hb⟩
  · have hm : a ∈ f1 ++ fp ++ f2 := by
      rcases List.mem_append.mp ha with z | z
      · exact List.mem_append_left _ (List.mem_append_left _ z)
      · exact List.mem_append_right _ z
    have q := out a hm
    refine ⟨q.1, fun z => z.elim q.2.1 fun z => ?_, q.2.2⟩
    rcases List.mem_append.mp ha with y | y
    · exact nd3.2.2 a y a z rfl
    · exact nd2.2.2 a (List.mem_append_right _ z) a y rfl
  · rcases z with z | (z | z) | z
    · exact tr a (.inl z)
    · exact tr a (.inr (.inl z))
    · obtain ⟨o, ho⟩ := RT_some _ _ _ h1 a z
      rw [ho]; simp
    · exact tr a (.inr (.inr z))
  · obtain ⟨F', rt', nd', out', tr', tb'⟩ := S
    have hB : w'.B = fun a => w.B a ∨ a ∈ fp := A.B
    have hR : w'.R = w.R := A.R
    have hI : ∀ a, w.I a → w'.I a := A.I
    have hk : ∀ a, (w.I a ∨ w.B a ∨ w.R a) → H' a = H a := fun a z => by
      refine A.keep a ?_
      rcases z with z | z | z
      · exact .inl z
      · exact .inr (.inl (.inl z))
      · exact .inr (.inr z)
    have hf : ∀ a ∈ fp, H' a = H a := fun a ha => A.keep a (.inr (.inl (.inr ha)))
    have hl : i < ρ'.length := by rw [lr]; exact (List.getElem?_eq_some_iff.mp hi).1
    obtain ⟨t', ht'⟩ : ∃ t', (pre ++ ρ')[pre.length + i]? = some t' := ⟨_, List.getElem?_eq_getElem (by simp; omega)⟩
    obtain ⟨v', g1, gp, g2, hv', _, eg, put'⟩ := rt'.at ht'
    have ev : v' = some x := by
      rw [lp, List.getElem?_append_right (by omega), show vs.length + i - vs.length = i by omega, hv] at hv'
      exact (Option.some.inj hv').symm
    subst ev
    have rtt : RT C w' H' t (some x) fp := RT_mono (w := w) (H := H) (fun a z => ⟨hI a z, hk a (.inl z)⟩) (fun a z => ⟨by rw [hB]; exact .inl z, hk a (.inr (.inl z))⟩) _ _ _ hf h1
    have q := put' t (some x) fp rtt
    rw [set_same hv'] at q
    have es : (pre ++ ρ').set (pre.length + i) t = pre ++ ρ'.set i t := by
      rw [List.set_append_right _ _ (by omega), show pre.length + i - pre.length = i by omega]
    rw [es] at q
    have hd : ∀ a ∈ fp, ¬ w'.I a := fun a ha z => by
      rcases A.new a z with z | ⟨z, _⟩
      · exact (out a (hs a ha)).1 z
      · exact z (.inr ha)
    have hfp : ∀ a ∈ fp, a ∉ F' := fun a ha z => (out' a z).2.1 (by rw [hB]; exact .inr ha)
    rw [eg] at nd' hfp
    have n1 := List.nodup_append.mp nd'
    have n2 := List.nodup_append.mp n1.1
    refine ⟨⟨w'.I, w.B, w.R⟩, rfl, ⟨hI, rfl, rfl, fun a z => ?_, hk⟩, g1 ++ fp ++ g2, RTs_noB (w := w') (w' := ⟨w'.I, w.B, w.R⟩) rfl _ _ _ nb q, ?_, fun a ha => ?_, fun a z => ?_, tb'⟩
    · rcases A.new a z with z | ⟨z1, z2⟩
      · exact .inl z
      · exact .inr ⟨fun y => z1 (.inl y), z2⟩
    · refine List.nodup_append.mpr ⟨List.nodup_append.mpr ⟨n2.1, nd3.2.1, fun a ha b hb e => ?_⟩, n1.2.1, fun a ha b hb e => ?_⟩
      · subst e
        exact hfp a hb (List.mem_append_left _ (List.mem_append_left _ ha))
      · subst e
        rcases List.mem_append.mp ha with y | y
        · exact n1.2.2 a (List.mem_append_left _ y) a hb rfl
        · exact hfp a y (List.mem_append_right _ hb)
    · have old : a ∈ g1 ++ gp ++ g2 → ¬ w'.I a ∧ ¬ w.B a ∧ ¬ w.R a := fun z => by
        have y := out' a (by rw [eg]; exact z)
        rw [hB, hR] at y
        exact ⟨y.1, fun z => y.2.1 (.inl z), y.2.2⟩
      rcases List.mem_append.mp ha with y | y
      · rcases List.mem_append.mp y with y | y
        · exact old (List.mem_append_left _ (List.mem_append_left _ y))
        · exact ⟨hd a y, (out a (hs a y)).2⟩
      · exact old (List.mem_append_right _ y)
    · refine tr' a ?_
      rcases z with z | z | z
      · exact .inl z
      · exact .inr (.inl (by rw [hB]; exact .inl z))
      · exact .inr (.inr (by rw [hR]; exact z))
end
def dLend (i : Nat) (de : DE) : DE := fun ρ => match ρ[i]? with
  | some t => (match t.frz with
    | some (_, d) => (match de (ρ.set i (.imm true d)) with
      | .ok r ρ' => if noBs (r :: ρ'.set i t) && decide (ρ'.length = ρ.length) then .ok r (ρ'.set i t) else .bad
      | .exc e ρ' => if noBs (ρ'.set i t) && decide (ρ'.length = ρ.length) then .exc e (ρ'.set i t) else .bad
      | .bad => .bad)
    | none => .bad)
  | none => .bad
section
variable {C : Ct} {W : WX} {pn ch : List Nat} {w w' : Wd} {H H' : Hp} {σ σ' : L2.St} {En : Ends} {X : Cx} {ca : Cad} {ρ : List T} {t u : T} {v x : Option V}
theorem se_lend (i : Nat) {e : Expr} {de : DE} (h : SE X ca W e de) : SE X ca W e (dLend i de) := ⟨PE.imp h.pe fun σ H Q q => by
  obtain ⟨w, ρ, S, k⟩ := q
  unfold dLend at k
  cases e0 : ρ[i]? with
  | none => simp only [e0] at k; exact k.elim
  | some t =>
    simp only [e0] at k
    cases ef : t.frz with
    | none => simp only [ef] at k; exact k.elim
    | some p =>
      obtain ⟨b, d⟩ := p
      simp only [ef] at k
      obtain ⟨w2, e2, S2, back⟩ := S.lend e0 ef
      refine ⟨w2, _, S2, ?_⟩
      cases ed : de (ρ.set i (.imm true d)) with
      | bad => simp only [ed] at k; exact k.elim
      | exc z ρ' =>
        simp only [ed] at k
        split at k
        · rename_i hc
          rw [Bool.and_eq_true] at hc
          intro w' H' cls dx A S' x
          obtain ⟨w'', e3, A3, S3⟩ := back w' H' [] [] ρ' rfl (of_decide_eq_true hc.2) A S' hc.1
          exact k w'' H' cls dx A3 S3 (x.I e3)
        · exact k.elim
      | ok r ρ' =>
        simp only [ed] at k
        split at k
        · rename_i hc
          rw [Bool.and_eq_true] at hc
          intro w' H' v A S'
          obtain ⟨w'', e3, A3, S3⟩ := back w' H' [r] [some v] ρ' rfl (of_decide_eq_true hc.2) A S' hc.1
          exact k w'' H' v A3 S3
        · exact k.elim⟩
end
end Gb

namespace Gb
open PySem PySem.Spec L2 PyProof.Rows
/-! list(reversed(a list)) -/
section
variable {prog : Program} {w : World} {A : Around} {E : Value → Shared → Prop} {s : Shared}
end
section
variable {X : Cx} {ca : Cad} {W : WX}
def revk : T → List T → ER T
  | .imm false (.lst ds), ρ => .ok (.lstI ds.reverse) ρ
  | _, _ => .bad
def dLr (de : DE) : DE := d1 revk de
variable {pn : List Nat} {C : Ct} {w : Wd} {H : Hp} {σ : L2.St} {ρ : List T}
def dReverse (i : Nat) : DE := fun ρ => match ρ[i]? with
  | some (.lstI ds) => .ok (.imm false .non) (ρ.set i (.lstI ds.reverse))
  | _ => .bad
def dListV (i : Nat) : DE := fun ρ => match ρ[i]? with
  | some (.lstI ds) => .ok (.lstI ds) ρ
  | _ => .bad
def dtLend (i : Nat) (dt : DT) : DT := fun ρ => match ρ[i]? with
  | some t => (match t.frz with
    | some (_, d) => (match dt (ρ.set i (.imm true d)) with
      | .ok r ρ' => if noBs (ρ'.set i t) && decide (ρ'.length = ρ.length) then .ok r (ρ'.set i t) else .bad
      | .exc e ρ' => if noBs (ρ'.set i t) && decide (ρ'.length = ρ.length) then .exc e (ρ'.set i t) else .bad
      | .bad => .bad)
    | none => .bad)
  | none => .bad
theorem st_lend (i : Nat) {e : Expr} {dt : DT} (h : ST X ca W e dt) : ST X ca W e (dtLend i dt) := ⟨PT.imp h.pt fun σ H Q q => by
  obtain ⟨w, ρ, S, k⟩ := q
  unfold dtLend at k
  cases e0 : ρ[i]? with
  | none => simp only [e0] at k; exact k.elim
  | some t =>
    simp only [e0] at k
    cases ef : t.frz with
    | none => simp only [ef] at k; exact k.elim
    | some p =>
      obtain ⟨b, d⟩ := p
      simp only [ef] at k
      obtain ⟨w2, e2, S2, back⟩ := S.lend e0 ef
      refine ⟨w2, _, S2, ?_⟩
      cases ed : dt (ρ.set i (.imm true d)) with
      | bad => simp only [ed] at k; exact k.elim
      | exc z ρ' =>
        simp only [ed] at k
        split at k
        · rename_i hc
          rw [Bool.and_eq_true] at hc
          intro w' H' cls dx A S' x
          obtain ⟨w'', e3, A3, S3⟩ := back w' H' [] [] ρ' rfl (of_decide_eq_true hc.2) A S' hc.1
          exact k w'' H' cls dx A3 S3 (x.I e3)
        · exact k.elim
      | ok r ρ' =>
        simp only [ed] at k
        split at k
        · rename_i hc
          rw [Bool.and_eq_true] at hc
          intro w' H' A S'
          obtain ⟨w'', e3, A3, S3⟩ := back w' H' [] [] ρ' rfl (of_decide_eq_true hc.2) A S' hc.1
          exact k w'' H' A3 S3
        · exact k.elim⟩
end
end Gb

namespace Gb
open PySem PySem.Spec L2
/-! lists of own things -/
section
variable {C : Ct} {W : WX} {pn ch : List Nat} {w w' : Wd} {H H' : Hp} {σ σ' : L2.St} {En : Ends} {X : Cx} {ca : Cad} {ρ : List T} {t u : T} {v x : Option V}
theorem Stt.head_lst {ts : List T} (h : Stt C w H (.lst ts :: ρ) (v :: σ)) : ∃ p vs, v = some (.ref p) ∧ H p = some (.lst vs) ∧ vs.length = ts.length := by
  obtain ⟨F, ⟨v0, r0, f1, f2, e, ⟨a, vs, f, e3, g, rd, rfl⟩, h2, rfl⟩, nd, out, tr, tb⟩ := h
  injection e with e1 e2
  subst e1; subst e2
  exact ⟨a, vs, e3, g, by rw [rd.length, List.length_map]⟩
theorem Stt.toO (h : Stt C w H (.lstI [] :: ρ) (v :: σ)) : Stt C w H (.lst [] :: ρ) (v :: σ) := by
  obtain ⟨F, ⟨v0, r0, f1, f2, e, ⟨a, vs, e3, g, rd, rfl⟩, h2, rfl⟩, nd, out, tr, tb⟩ := h
  injection e with e1 e2
  subst e1; subst e2
  have e4 : vs = [] := rd
  subst e4
  exact ⟨[a] ++ f2, ⟨v, σ, [a], f2, rfl, ⟨a, [], [], e3, g, ⟨rfl, rfl⟩, rfl⟩, h2, rfl⟩, nd, out, tr, tb⟩
/-- one more thing goes into the list in front -/
theorem Stt.pushO {ts : List T} {p : Addr} {vs : List V} {y : V} (h : Stt C w H (.lst ts :: t :: ρ) (some (.ref p) :: some y :: σ)) (hp : H p = some (.lst vs)) :
    After w H w (upd H p (.lst (vs ++ [y]))) ∧ Stt C w (upd H p (.lst (vs ++ [y]))) (.lst (ts ++ [t]) :: ρ) (some (.ref p) :: σ) := by
  obtain ⟨F, ⟨v0, r0, f1, f2, e, ⟨a, vs', f, e3, g, rd, rfl⟩, ⟨v1, r1, f3, f4, e', h3, h4, rfl⟩, rfl⟩, nd, out, tr, tb⟩ := h
  injection e with e1 e2
  subst e1; subst e2
  injection e' with e1 e2
  subst e1; subst e2
  cases e3
  rw [hp] at g
  cases g
  have op := out p (by simp)
  have ne : ∀ b, (w.I b ∨ w.B b ∨ w.R b) → b ≠ p := fun b z e => by
    subst e
    rcases z with z | z | z
    · exact op.1 z
    · exact op.2.1 z
    · exact op.2.2 z
  have nf : ∀ b, b ∈ f ∨ b ∈ f3 ∨ b ∈ f4 → b ≠ p := fun b hb e => by
    subst e
    rw [List.cons_append, List.nodup_cons] at nd
    exact nd.1 (by simp only [List.mem_append]; rcases hb with hb | hb | hb <;> simp [hb])
  have mono : ∀ {ts : List T} {us : List (Option V)} {f' : List Addr}, (∀ b ∈ f', b ∈ f ∨ b ∈ f3 ∨ b ∈ f4) → RTs C w H ts us f' → RTs C w (upd H p (.lst (vs ++ [y]))) ts us f' := fun hb r =>
    RTs_mono (w := w) (H := H) (fun b z => ⟨z, upd_ne (ne b (.inl z))⟩) (fun b z => ⟨z, upd_ne (ne b (.inr (.inl z)))⟩) _ _ _ (fun b z => upd_ne (nf b (hb b z))) r
  have q1 := mono (fun b z => .inl z) rd
  have q2 := mono (ts := [t]) (us := [some y]) (fun b z => .inr (.inl z)) ⟨some y, [], f3, [], rfl, h3, ⟨rfl, rfl⟩, by simp⟩
  have q3 := mono (fun b z => .inr (.inr z)) h4
  refine ⟨⟨fun _ z => z, rfl, rfl, fun _ z => .inl z, fun b z => upd_ne (ne b z)⟩, (p :: (f ++ f3)) ++ f4, ⟨_, σ, p :: (f ++ f3), f4, rfl, ⟨p, vs ++ [y], f ++ f3, rfl, upd_same, ?_, rfl⟩, q3, rfl⟩, ?_, fun b hb => out b ?_, fun b z => ?_, tabs_wr tb hp⟩
  · rw [List.map_append]
    exact q1.append q2
  · rw [List.cons_append, List.append_assoc]
    exact nd
  · simpa [List.append_assoc] using hb
  · rw [upd_ne (ne b z)]; exact tr b z
/-- a list within the list in front is put otherwise -/
theorem Stt.wrO {ts : List T} {j : Nat} {ds : List D} {p : Addr} (h : Stt C w H (.lst ts :: ρ) (some (.ref p) :: σ)) (e : ts[j]? = some (.lstI ds)) :
    ∃ vs q us, H p = some (.lst vs) ∧ vs[j]? = some (.ref q) ∧ H q = some (.lst us) ∧ RDs C H w.I ds us ∧
      ∀ ds' us', RDs C H w.I ds' us' → After w H w (upd H q (.lst us')) ∧ Stt C w (upd H q (.lst us')) (.lst (ts.set j (.lstI ds')) :: ρ) (some (.ref p) :: σ) := by
  obtain ⟨F, ⟨v0, r0, f1, f4, e0, ⟨a, vs, f, e3, g, rd, rfl⟩, h4, rfl⟩, nd, out, tr, tb⟩ := h
  injection e0 with e1 e2
  subst e1; subst e2
  cases e3
  obtain ⟨v', g1, fq, g2, hv, ⟨q, us, rfl, hq, rq, rfl⟩, rfl, put⟩ := rd.at e
  have hv' : vs[j]? = some (.ref q) := by
    rw [List.getElem?_map] at hv
    cases ev : vs[j]? with
    | none => rw [ev] at hv; cases hv
    | some z => rw [ev] at hv; simp at hv; rw [hv]
  refine ⟨vs, q, us, g, hv', hq, rq, fun ds' us' r' => ?_⟩
  have oq := out q (by simp)
  have ne : ∀ b, (w.I b ∨ w.B b ∨ w.R b) → b ≠ q := fun b z e => by
    subst e
    rcases z with z | z | z
    · exact oq.1 z
    · exact oq.2.1 z
    · exact oq.2.2 z
  have pm0 : (p :: (g1 ++ [q] ++ g2) ++ f4).Perm (q :: (p :: (g1 ++ g2) ++ f4)) := by
    have a1 : (g1 ++ [q] ++ g2).Perm (q :: (g1 ++ g2)) := by
      rw [List.append_assoc]
      exact List.perm_middle
    exact ((a1.cons p).append_right f4).trans ((List.Perm.swap q p _).append_right f4)
  have nd2 := pm0.nodup_iff.mp nd
  have nq : ∀ b, b = p ∨ b ∈ g1 ++ g2 ∨ b ∈ f4 → b ≠ q := fun b hb e => by
    subst e
    refine (List.nodup_cons.mp nd2).1 ?_
    simp only [List.cons_append, List.mem_cons, List.mem_append] at hb ⊢
    rcases hb with hb | (hb | hb) | hb <;> simp [hb]
  have k1 := put .dead (some (.ref q)) [] rfl
  rw [set_same hv, List.append_nil] at k1
  have mono : ∀ {ts : List T} {vs : List (Option V)} {f' : List Addr}, (∀ b ∈ f', b = p ∨ b ∈ g1 ++ g2 ∨ b ∈ f4) → RTs C w H ts vs f' → RTs C w (upd H q (.lst us')) ts vs f' := fun hb r =>
    RTs_mono (w := w) (H := H) (fun b z => ⟨z, upd_ne (ne b (.inl z))⟩) (fun b z => ⟨z, upd_ne (ne b (.inr (.inl z)))⟩) _ _ _ (fun b z => upd_ne (nq b (hb b z))) r
  have k2 := mono (fun b z => .inr (.inl z)) k1
  have k3 := mono (fun b z => .inr (.inr z)) h4
  have hj : j < ts.length := (List.getElem?_eq_some_iff.mp e).1
  obtain ⟨v2, m1, fd, m2, hv2, hd, em, put2⟩ := k2.at (i := j) (t := .dead) (by rw [List.getElem?_set_self hj])
  have hd' : fd = [] := hd
  subst hd'
  rw [List.append_nil] at em
  have k4 := put2 (.lstI ds') (some (.ref q)) [q] ⟨q, us', rfl, upd_same, RDs_mono (fun b z => ⟨z, upd_ne (ne b (.inl z))⟩) _ _ r', rfl⟩
  rw [List.set_set, set_same hv] at k4
  have pm1 : (p :: (m1 ++ [q] ++ m2) ++ f4).Perm (q :: (p :: (g1 ++ g2) ++ f4)) := by
    rw [em]
    have a1 : (m1 ++ [q] ++ m2).Perm (q :: (m1 ++ m2)) := by
      rw [List.append_assoc]
      exact List.perm_middle
    exact ((a1.cons p).append_right f4).trans ((List.Perm.swap q p _).append_right f4)
  refine ⟨⟨fun _ z => z, rfl, rfl, fun _ z => .inl z, fun b z => upd_ne (ne b z)⟩, p :: (m1 ++ [q] ++ m2) ++ f4, ⟨_, σ, p :: (m1 ++ [q] ++ m2), f4, rfl, ⟨p, vs, m1 ++ [q] ++ m2, rfl, (upd_ne (nq p (.inl rfl))).trans g, k4, rfl⟩, k3, rfl⟩, pm1.nodup_iff.mpr nd2, fun b hb => out b (pm0.mem_iff.mpr (pm1.mem_iff.mp hb)), fun b z => ?_, tabs_wr tb hq⟩
  rw [upd_ne (ne b z)]; exact tr b z
def asO : T → Option (List T)
  | .lst ts => some ts
  | .lstI [] => some []
  | _ => none
theorem Stt.atO {i : Nat} {ts : List T} (S : Stt C w H ρ σ) (e : (ρ[i]?).bind asO = some ts) : ∃ p, σ[i]? = some (some (.ref p)) ∧ Stt C w H (.lst ts :: ρ.set i .dead) (some (.ref p) :: σ) := by
  cases e0 : ρ[i]? with
  | none => rw [e0] at e; cases e
  | some t =>
    rw [e0] at e
    simp only [Option.bind_some] at e
    obtain ⟨v, hv, S1⟩ := S.move e0
    have S2 : Stt C w H (.lst ts :: ρ.set i .dead) (v :: σ) := by
      unfold asO at e
      split at e
      · cases e; exact S1
      · cases e; exact S1.toO
      · cases e
    obtain ⟨p, vs, rfl, _, _⟩ := S2.head_lst
    exact ⟨p, hv, S2⟩
theorem Stt.backO {i : Nat} {t' : T} (S : Stt C w H (t' :: ρ.set i .dead) (v :: σ)) (hv : σ[i]? = some v) (hi : i < ρ.length) : Stt C w H (ρ.set i t') σ := by
  have S3 := S.put (i := i) (by rw [List.length_set]; exact hi)
  rw [List.set_set, set_same hv] at S3
  exact S3
theorem bind_len {i : Nat} {ts : List T} (e : (ρ[i]?).bind asO = some ts) : i < ρ.length := by
  cases e0 : ρ[i]? with
  | none => rw [e0] at e; cases e
  | some t => exact (List.getElem?_eq_some_iff.mp e0).1
/-- name.append(e), a list of own things -/
def pushk (i : Nat) (t : T) (ρ1 : List T) : ER T := match (ρ1[i]?).bind asO with
  | some ts => if ts.length < 16777216 then .ok (.imm false .non) (ρ1.set i (.lst (ts ++ [t]))) else .bad
  | none => .bad
def dAppendO (i : Nat) (de : DE) : DE := fun ρ => match (ρ[i]?).bind asO with
  | some _ => (de ρ).bind (pushk i)
  | none => .bad
theorem Stt.swap (h : Stt C w H (t :: u :: ρ) (v :: x :: σ)) : Stt C w H (u :: t :: ρ) (x :: v :: σ) := by
  obtain ⟨F, ⟨v0, r, f1, f2, e, h1, ⟨v1, r1, g1, g2, e', h3, h4, rfl⟩, rfl⟩, nd, out, tr, tb⟩ := h
  injection e with e1 e2
  subst e1; subst e2
  injection e' with e1 e2
  subst e1; subst e2
  have pm : (g1 ++ (f1 ++ g2)).Perm (f1 ++ (g1 ++ g2)) := List.perm_append_comm_assoc g1 f1 g2
  exact ⟨g1 ++ (f1 ++ g2), ⟨_, _, g1, f1 ++ g2, rfl, h3, ⟨_, _, f1, g2, rfl, h1, h4, rfl⟩, rfl⟩, pm.nodup_iff.mpr nd, fun b hb => out b (pm.mem_iff.mp hb), tr, tb⟩
/-- name.pop(), a list of own things -/
def popk2 (i : Nat) (ρ : List T) : Option (List T) → ER T
  | some ts => match ts.getLast? with
    | some t => .ok t (ρ.set i (.lst ts.dropLast))
    | none => .bad
  | none => .bad
def dPopO (i : Nat) : DE := fun ρ => popk2 i ρ ((ρ[i]?).bind asO)
/-- what stands in front is laid aside; its address stays -/
theorem Stt.pushR {ts : List T} {p : Addr} (h : Stt C w H (.lst ts :: ρ) (some (.ref p) :: σ)) : ∃ wt : Wd, wt.I = w.I ∧ wt.B = w.B ∧ wt.R p ∧ Stt C wt H ρ σ ∧
    ∀ (w' : Wd) (H' : Hp) (ρ' : List T) (σ' : St), After wt H w' H' → Stt C w' H' ρ' σ' → ∃ w'', w''.I = w'.I ∧ After w H w'' H' ∧ Stt C w'' H' (.lst ts :: ρ') (some (.ref p) :: σ') := by
  obtain ⟨F, ⟨v0, r, f1, f2, e, h1, h2, rfl⟩, nd, out, tr, tb⟩ := h
  injection e with e1 e2
  subst e1; subst e2
  have inp : p ∈ f1 := by
    obtain ⟨a, vs, f, e3, g, rd, rfl⟩ := h1
    cases e3
    simp
  have nd2 := List.nodup_append.mp nd
  refine ⟨⟨w.I, w.B, fun a => w.R a ∨ a ∈ f1⟩, rfl, rfl, .inr inp, ⟨f2, ?_, nd2.2.1, fun a ha => ?_, fun a ha => ?_, tb⟩, fun w' H' ρ' σ' A S => ?_⟩
  · exact RTs_mono (w := w) (w' := ⟨w.I, w.B, fun a => w.R a ∨ a ∈ f1⟩) (H := H) (fun a z => ⟨z, rfl⟩) (fun a z => ⟨z, rfl⟩) _ _ _ (fun _ _ => rfl) h2
  · have q := out a (List.mem_append_right _ ha)
    exact ⟨q.1, q.2.1, fun z => z.elim q.2.2 fun z => nd2.2.2 a z a ha rfl⟩
  · rcases ha with z | z | z | z
    · exact tr a (.inl z)
    · exact tr a (.inr (.inl z))
    · exact tr a (.inr (.inr z))
    · obtain ⟨o, ho⟩ := RT_some _ _ _ h1 a z
      rw [ho]; simp
  · obtain ⟨F', rt, nd', out', tr', tb'⟩ := S
    have hB : w'.B = w.B := A.B
    have hR : w'.R = fun a => w.R a ∨ a ∈ f1 := A.R
    refine ⟨⟨w'.I, w'.B, w.R⟩, rfl, ⟨A.I, hB, rfl, fun a z => ?_, fun a z => ?_⟩, f1 ++ F', ⟨_, σ', f1, F', rfl, ?_, ?_, rfl⟩, ?_, fun a ha => ?_, fun a z => ?_, tb'⟩
    · rcases A.new a z with z | ⟨z1, z2⟩
      · exact .inl z
      · exact .inr ⟨z1, fun q => z2 (.inl q)⟩
    · refine A.keep a ?_
      rcases z with z | z | z
      · exact .inl z
      · exact .inr (.inl z)
      · exact .inr (.inr (.inl z))
    · refine RT_mono (w := w) (w' := ⟨w'.I, w'.B, w.R⟩) (H := H) (fun a z => ⟨A.I a z, A.keep a (.inl z)⟩) (fun a z => ⟨by show w'.B a; rw [hB]; exact z, A.keep a (.inr (.inl z))⟩) _ _ _ (fun a z => A.keep a (.inr (.inr (.inr z)))) h1
    · exact RTs_mono (w := w') (w' := ⟨w'.I, w'.B, w.R⟩) (H := H') (fun a z => ⟨z, rfl⟩) (fun a z => ⟨z, rfl⟩) _ _ _ (fun _ _ => rfl) rt
    · refine List.nodup_append.mpr ⟨nd2.1, nd', fun a ha b hb e => ?_⟩
      subst e
      refine (out' a hb).2.2 ?_
      rw [hR]; exact .inr ha
    · rcases List.mem_append.mp ha with ha | ha
      · have q := out a (List.mem_append_left _ ha)
        refine ⟨fun z => ?_, by show ¬ w'.B a; rw [hB]; exact q.2.1, q.2.2⟩
        rcases A.new a z with z | ⟨_, z⟩
        · exact q.1 z
        · exact z (.inr ha)
      · have q := out' a ha
        refine ⟨q.1, q.2.1, fun z => q.2.2 ?_⟩
        rw [hR]; exact .inl z
    · refine tr' a ?_
      rcases z with z | z | z
      · exact .inl z
      · exact .inr (.inl z)
      · exact .inr (.inr (by rw [hR]; exact .inl z))
theorem atI_of {α : Type} {xs : List α} {k : Int} {j : Nat} (h : ixN xs.length k = some j) : L2.atI xs k = xs[j]? := by
  unfold L2.atI
  rw [h]; rfl
/-- name[j].append(e) -/
def inner (ts : List T) (j : Int) : Option (Nat × List D) := match ixN ts.length j with
  | some jn => match ts[jn]? with
    | some (.lstI ds) => some (jn, ds)
    | _ => none
  | none => none
def app3 (i : Nat) (ts : List T) (jn : Nat) (ds : List D) (t : T) (ρ2 : List T) : ER T := match t.frz with
  | some (false, d) => if ds.length < 16777216 ∧ i < ρ2.length then .ok (.imm false .non) (ρ2.set i (.lst (ts.set jn (.lstI (ds ++ [d]))))) else .bad
  | _ => .bad
def app2 (i : Nat) (de : DE) (y : T) (ρ1 : List T) : ER T := match (ρ1[i]?).bind asO, y with
  | some ts, .imm _ (.int j) => match inner ts j with
    | some (jn, ds) => (de (ρ1.set i .dead)).bind (app3 i ts jn ds)
    | none => .bad
  | _, _ => .bad
def dAppend2 (i : Nat) (dj de : DE) : DE := fun ρ => match (ρ[i]?).bind asO with
  | some _ => (dj ρ).bind (app2 i de)
  | none => .bad
theorem inner_spec {ts : List T} {j : Int} {jn : Nat} {ds : List D} (h : inner ts j = some (jn, ds)) : ixN ts.length j = some jn ∧ ts[jn]? = some (.lstI ds) := by
  unfold inner at h
  split at h
  · rename_i n hn
    split at h
    · rename_i es he
      cases h
      exact ⟨hn, he⟩
    · cases h
  · cases h
def compLO (dg : DG) (dt : DT) (de : DE) (own : List Nat) (b : Bool) : List D → List T → ER (List T)
  | [], ρ => .ok [] ρ
  | d :: ds, ρ => match dg (.imm b d) ρ with
    | none => .bad
    | some ρ1 => match dt ρ1 with
      | .ok true ρ2 => match de ρ2 with
        | .ok t ρ3 => match compLO dg dt de own b ds (killL own ρ3) with
          | .ok r ρ4 => .ok (t :: r) ρ4
          | _ => .bad
        | _ => .bad
      | .ok false ρ2 => compLO dg dt de own b ds (killL own ρ2)
      | _ => .bad
def dLcO (own : List Nat) (dg : DG) (di : DI) (dt : DT) (de : DE) : DE := fun ρ => match di ρ with
  | .ok p ρ1 => match compLO dg dt de own p.1 p.2 (killL own ρ1) with
    | .ok r ρ2 => .ok (.lst r) (killL own ρ2)
    | _ => .bad
  | .exc e ρ1 => .exc e ρ1
  | .bad => .bad
theorem lcTO {dg : DG} {di : DI} {dt : DT} {de : DE} {vs : List Nat} (hch : ∀ i ∈ ch, i ∈ vs) {Q : VK} (h : tE C W (dLcO vs dg di dt de) σ H Q) :
    tLc (tI C W di) (tG C ch dg) (tT C WF dt) (tE C WF de) vs σ H Q := by
  obtain ⟨w, ρ, S, k⟩ := h
  refine ⟨w, ρ, S, ?_⟩
  unfold dLcO at k
  cases e : di ρ with
  | bad => rw [e] at k; exact k
  | exc x ρ1 => rw [e] at k; exact k
  | ok p ρ1 =>
    simp only [e] at k
    obtain ⟨b, ds⟩ := p
    intro w1 H1 J A1 S1 wk
    have wk : Walk C w1 H1 J b ds := wk
    intro Dp hD
    have k1 : kE C W w1 H1 σ Q (match compLO dg dt de vs b ds (killL vs ρ1) with | .ok r ρ2 => .ok (.lst r) (killL vs ρ2) | _ => .bad) := kE.after A1 k
    obtain ⟨A2, S2'⟩ := (S1.forget chg_wipe : Stt C w1 H1 (killL vs ρ1) (wipe σ vs)).newL (ds := []) (vs := []) rfl hD
    have S2 := S2'.toO
    refine ⟨fun i m H' => m = ds.length - i ∧ i ≤ ds.length ∧ ∃ w' ρ' acc, acc.length ≤ i ∧ After w1 H1 w' H' ∧ Stt C w' H' (.lst acc :: ρ') (some (.ref Dp) :: wipe σ vs) ∧
      kE C W w' H' σ Q (match compLO dg dt de vs b (ds.drop i) ρ' with | .ok r ρ2 => .ok (.lst (acc ++ r)) (killL vs ρ2) | _ => .bad),
      ⟨ds.length, by simp, Nat.zero_le _, w1, _, [], Nat.le_refl _, A2, S2, by simpa using kE.after A2 k1⟩, ?_⟩
    rintro i m H2 ⟨rfl, hi, w2, ρ2, acc, hacc, A3, S3, k2⟩
    by_cases hl : i < ds.length
    · refine .inr ⟨wk.go i w2 H2 hl A3, fun H' => ∃ w' ρ' acc, acc.length ≤ i + 1 ∧ After w1 H1 w' H' ∧ Stt C w' H' (.lst acc :: ρ') (some (.ref Dp) :: wipe σ vs) ∧
        kE C W w' H' σ Q (match compLO dg dt de vs b (ds.drop (i + 1)) ρ' with | .ok r ρ2 => .ok (.lst (acc ++ r)) (killL vs ρ2) | _ => .bad), fun H' z => ⟨ds.length - (i + 1), by omega, rfl, hl, z⟩, fun x H3 y => ?_⟩
      have hd' : ds[i]? = some ds[i] := List.getElem?_eq_getElem hl
      obtain ⟨w3, A4, S4⟩ := wk.yld i _ w2 H2 _ _ x H3 hd' A3 S3 y
      obtain ⟨x', ex, rx⟩ := S4.head_imm
      cases ex
      obtain ⟨wt, eI, eB, S5, back⟩ := S4.drop.push
      have rx' : RD C H3 (wt.im b) ds[i] x := by
        have : wt.im b = w3.im b := by unfold Wd.im; rw [eI, eB]
        rw [this]; exact rx
      rw [List.drop_eq_getElem_cons hl] at k2
      unfold compLO at k2
      cases eg : dg (.imm b ds[i]) ρ2 with
      | none => simp only [eg] at k2; exact k2.elim
      | some ρ3 =>
        simp only [eg] at k2
        refine ⟨wt, ρ2, _, ρ3, S5.cons_imm rx', eg, fun w6 H6 σ6 A6 S6 c6 => ⟨wipe_chg c6 hch, w6, ρ3, S6, ?_⟩⟩
        cases et : dt ρ3 with
        | bad => simp only [et] at k2; exact k2.elim
        | exc z ρ4 => simp only [et] at k2; exact k2.elim
        | ok bt ρ4 =>
          cases bt with
          | false =>
            simp only [et] at k2
            intro w7 H7 A7 S7
            rw [if_neg (by simp)]
            obtain ⟨w8, _, A8, S8⟩ := back _ _ _ _ (A6.trans A7) S7
            have c6' : Chg vs σ6 (wipe σ vs) := by
              rw [← wipe_chg c6 hch]; exact chg_wipe
            refine ⟨w8, killL vs ρ4, acc, by omega, A3.trans (A4.trans A8), ?_, kE.after (A4.trans A8) k2⟩
            exact S8.forgetTail c6'
          | true =>
            simp only [et] at k2
            intro w7 H7 A7 S7
            rw [if_pos rfl]
            refine ⟨w7, ρ4, S7, ?_⟩
            cases ee : de ρ4 with
            | bad => simp only [ee] at k2; exact k2.elim
            | exc z ρ5 => simp only [ee] at k2; exact k2.elim
            | ok t5 ρ5 =>
              simp only [ee] at k2
              intro w8 H8 y8 A8 S8
              obtain ⟨w10, e10, A10, S10⟩ := back _ _ _ _ (A6.trans (A7.trans A8)) S8
              obtain ⟨p10, vs10, ep, hp, l10⟩ := S10.head_lst
              cases ep
              obtain ⟨A11, S11⟩ := S10.pushO hp
              have c6' : Chg vs σ6 (wipe σ vs) := by
                rw [← wipe_chg c6 hch]; exact chg_wipe
              refine ⟨vs10, hp, ?_, w10, killL vs ρ5, acc ++ [t5], by simp; omega, A3.trans (A4.trans (A10.trans A11)), S11.forgetTail c6', ?_⟩
              · rw [l10]
                have := wk.line
                omega
              · have k3 := kE.after (A4.trans (A10.trans A11)) k2
                cases ec : compLO dg dt de vs b (ds.drop (i + 1)) (killL vs ρ5) with
                | bad => simp only [ec] at k3; exact k3.elim
                | exc z ρ6 => simp only [ec] at k3; exact k3.elim
                | ok r ρ6 =>
                  simp only [ec] at k3 ⊢
                  rw [List.append_assoc]
                  exact k3
    · have e : i = ds.length := by omega
      subst e
      refine .inl ⟨wk.stop w2 H2 A3, ?_⟩
      simp [compLO] at k2
      exact k2 w2 H2 _ .refl (S3.forgetTail chg_wipe.symm)
theorem ss_setLcO {i : Nat} {y : Str} {py : Pos} {elt tg iter : Expr} {ifs : List Expr} {scope : Scope} {own : List (Str × Nat)} {pos spos : Pos} {dg : DG} {di : DI} {dt : DT} {de : DE} (hc : X.calm = true) (hi : SI X ca W tg iter di) (B : Blk X ca scope own ch tg elt ifs dg dt de)
    (hy : X.N[i]? = some y := by rfl) (hyl : X.env.scope.names.lookup y = some .local := by rfl) (hk : X.env.scope.kind = .function := by rfl) (hl : (py.line == pos.line) = true := by rfl) (ha : (scope.names.any fun (n, k) => n == y && (k == .local || k == .cell)) = false := by decide +kernel) (hp : i ∉ pn := by decide)
    (hs : ∀ x, foldedSetIterable iter X.env x = pure x := by intro _; rfl) : SS X ca W pn (.Assign [.Name y py] (.ListComp elt [⟨tg, iter, ifs, 0⟩] scope pos) spos) (dSet i (dLcO (own.map (·.2)) dg di dt de)) :=
  ⟨PS.impL (ps_setLc hc B.nd hy hyl (sw_true hk hyl hl ha) hi.pi B.ok (fun s H C cl fp => (B.g s H C cl fp).pg) (fun s H C cl fp => (B.t s H C cl fp).pts) (fun s H C cl fp => (B.e s H C cl fp).pe) hs) fun En σ H l q =>
    show tLc _ _ _ _ _ σ H (fun x H1 => gName i x σ H1 En.nx) from lcTO (W := W) B.ch (setS q (by rw [l]; exact (List.getElem?_eq_some_iff.mp hy).1) hp)⟩
/-- name[j][k] = e -/
def dSetIx2 (i : Nat) (dj dk de : DE) : DS := dEx de fun t ρ1 => match (ρ1[i]?).bind asO, t.frz with
  | some _, some (false, d) => match dj ρ1 with
    | .ok (.imm _ (.int j)) ρ2 => match (ρ2[i]?).bind asO with
      | some ts => match inner ts j with
        | some (jn, ds) => match dk (ρ2.set i .dead) with
          | .ok (.imm _ (.int k)) ρ3 => match ixN ds.length k with
            | some kn => if i < ρ3.length then .next (ρ3.set i (.lst (ts.set jn (.lstI (ds.set kn d))))) else .bad
            | none => .bad
          | _ => .bad
        | none => .bad
      | none => .bad
    | _ => .bad
  | _, _ => .bad
theorem ss_setIx2 (i : Nat) {x : Str} {je ik e : Expr} {dj dk de : DE} {px spos spos2 pos : Pos} (hj : SE X ca W je dj) (hk : SE X ca W ik dk) (he : SE X ca W e de) (hsj : PlainIx je := by exact fun _ _ => rfl) (hN : X.N[i]? = some x := by rfl) (hv : Vis X.env.scope x := by first | exact Or.inl rfl | exact Or.inr (Or.inl rfl) | exact Or.inr (Or.inr rfl))
    (hd : (x == ("__debug__" : Str)) = false := by decide) (hcd : (x == ("__classdict__" : Str)) = false := by decide)
    (ha : ∀ v, assign (.Subscript (.Subscript (.Name x px) je spos2) ik spos) X.env v = (do
      let ov ← holding [v] (eval (.Subscript (.Name x px) je spos2) X.env)
      let iv ← holding [v, ov] (eval ik X.env)
      standAt spos
      holding [v, ov, iv] (setItem ov iv v)
      release [v, ov, iv] []) := by intro _; rfl)
    (hs : swapsWithSole [.Subscript (.Subscript (.Name x px) je spos2) ik spos] e pos.line X.env = pure false := by rfl) (hw : swappedStores [.Subscript (.Subscript (.Name x px) je spos2) ik spos] e X.env = pure none := by rfl)
    (h1 : (assignEach [.Subscript (.Subscript (.Name x px) je spos2) ik spos] X.env).map (·.2) = [assign (.Subscript (.Subscript (.Name x px) je spos2) ik spos) X.env] := by rfl) :
    SS X ca W pn (.Assign [.Subscript (.Subscript (.Name x px) je spos2) ik spos] e pos) (dSetIx2 i dj dk de) :=
  ⟨PS.imp (ps_asg he.pe (pg_sub (pe_ix ix_seq (pe_var hN hv hd hcd) hj.pe hsj) hk.pe set_list ha) hs hw h1) fun En σ H q => exS q fun w H t ρ v S k => by
    split at k
    · rename_i ts0 d e0 ef
      obtain ⟨w2, A2, S2⟩ := S.freeze ef
      have k := kS.after A2 (pn := pn) .refl k
      have ry := S2.head_rd.false
      obtain ⟨p, hp, _⟩ := S2.drop.atO e0
      refine ⟨_, hp, w2, ρ, S2.drop, ?_⟩
      cases ej : dj ρ with
      | bad => simp only [ej] at k; exact k.elim
      | exc z ρ2 => simp only [ej] at k; exact k.elim
      | ok y ρ2 =>
        intro w3 H3 yv A3 S3
        have k := kS.after A3 (pn := pn) .refl k
        cases y with
        | imm b dd =>
          cases dd with
          | int j =>
            simp only [ej] at k
            have ey := S3.head_int
            subst ey
            split at k
            · rename_i ts e1
              split at k
              · rename_i jn ds hin
                obtain ⟨hjn, hds⟩ := inner_spec hin
                obtain ⟨p', hp', S4⟩ := S3.drop.atO e1
                rw [hp] at hp'
                cases hp'
                obtain ⟨vs, q, us, hHp, hvq, hHq, rq, _⟩ := S4.wrO hds
                have lvs : vs.length = ts.length := by
                  obtain ⟨_, vs', ep, hH', l'⟩ := S4.head_lst
                  cases ep
                  rw [hHp] at hH'
                  cases hH'
                  exact l'
                refine .inl ⟨p, vs, j, .ref q, rfl, rfl, .of hHp, by rw [atI_of (by rw [lvs]; exact hjn)]; exact hvq, ?_⟩
                obtain ⟨wt, eI, eB, eR, S5, back⟩ := S4.pushR
                refine ⟨wt, _, S5, ?_⟩
                cases ek : dk (ρ2.set i .dead) with
                | bad => simp only [ek] at k; exact k.elim
                | exc z ρ3 => simp only [ek] at k; exact k.elim
                | ok y2 ρ3 =>
                  intro w6 H6 y6 A6 S6
                  cases y2 with
                  | imm b2 dd2 =>
                    cases dd2 with
                    | int kk =>
                      simp only [ek] at k
                      have ey := S6.head_int
                      subst ey
                      have hk6 : H6 p = some (.lst vs) := (A6.keep p (.inr (.inr eR))).trans hHp
                      obtain ⟨w7, e7, A7, S7⟩ := back w6 H6 _ _ A6 S6.drop
                      have k := kS.after A7 (pn := pn) .refl k
                      split at k
                      · rename_i kn hkn
                        split at k
                        · rename_i hl
                          obtain ⟨vs8, q8, us8, hp8, hq8, hH8, rd8, wr8⟩ := S7.wrO hds
                          rw [hk6] at hp8
                          cases hp8
                          rw [hvq] at hq8
                          cases hq8
                          refine ⟨q, us8, kk, kn, rfl, rfl, hH8, by rw [← rd8.length]; exact hkn, ?_⟩
                          have ry2 : RD _ H6 w7.I d v := RD_mono (fun a z => ⟨A7.I a (A3.I a z), (A7.keep a (.inl (A3.I a z))).trans (A3.keep a (.inl z))⟩) _ _ ry
                          obtain ⟨A9, S9⟩ := wr8 (ds.set kn d) (us8.set kn v) (RDs.set ry2 kn rd8)
                          have S10 := S9.put (i := i) hl
                          rw [set_same hp] at S10
                          exact k w7 _ σ A9 S10 .refl
                        · exact k.elim
                      · exact k.elim
                    | _ => simp only [ek] at k; exact k.elim
                  | _ => simp only [ek] at k; exact k.elim
              · exact k.elim
            · exact k.elim
          | _ => simp only [ej] at k; exact k.elim
        | _ => simp only [ej] at k; exact k.elim
    · exact k.elim⟩
end
end Gb

namespace Gb
open PySem PySem.Spec L2
open PyProof.Rows (envOfC)
/-! defs with defaults -/
section
variable {P : Program} {wd : World} {K : PySem.W.Frag} {mg : Str → Option Value} {base : Heap} {ca : Cad} {x qual : Str} {st : Stmt} {f : Addr} {fd : FuncData} {N ps : List Str} {dvs : List V}
end
end Gb

namespace Gb
open PySem PySem.Spec L2 PyProof.Rows
/-! tuple(reversed(a tuple)) -/
section
variable {prog : Program} {w : World} {A : Around} {E : Value → Shared → Prop} {s : Shared}
end
section
variable {X : Cx} {ca : Cad} {W : WX}
def tuprk : T → List T → ER T
  | .imm b (.tup ds), ρ => .ok (.imm b (.tup ds.reverse)) ρ
  | _, _ => .bad
def dTr (de : DE) : DE := d1 tuprk de
end
end Gb

namespace Gb
open PySem PySem.Spec L2
/-! a loop over a list of own things that changes them -/
section
variable {C : Ct} {W : WX} {pn ch : List Nat} {w w' : Wd} {H H' : Hp} {σ σ' : L2.St} {En : Ends} {X : Cx} {ca : Cad} {ρ : List T} {t u : T} {v x : Option V}
def backL (i r j : Nat) (ts : List T) (ρ2 : List T) : Option (List T) := match ρ2[r]? with
  | some t' => some ((ρ2.set r .dead).set i (.lst (ts.set j t')))
  | none => none
def forLO (i r : Nat) (body : DS) : Nat → Nat → DS
  | _, 0, ρ => .next ρ
  | j, n + 1, ρ => match (ρ[i]?).bind asO with
    | some ts => match ts[j]? with
      | some t => match body ((ρ.set i .dead).set r t) with
        | .next ρ2 => match backL i r j ts ρ2 with
          | some ρ3 => forLO i r body (j + 1) n ρ3
          | none => .bad
        | .cont ρ2 => match backL i r j ts ρ2 with
          | some ρ3 => forLO i r body (j + 1) n ρ3
          | none => .bad
        | _ => .bad
      | none => .bad
    | none => .bad
def dForO (i r : Nat) (body : DS) : DS := fun ρ => match (ρ[i]?).bind asO with
  | some ts => forLO i r body 0 ts.length ρ
  | none => .bad
end
end Gb

namespace Gb
open PySem PySem.Spec L2
section
variable {C : Ct} {W : WX} {pn ch : List Nat} {w w' : Wd} {H H' : Hp} {σ σ' : L2.St} {En : Ends} {X : Cx} {ca : Cad} {ρ : List T} {t u : T} {v x : Option V}
/-- x.bit_length() -/
def bitk : T → List T → ER T
  | .imm _ (.int i), ρ => .ok (.imm false (.int (Builtin.Int.intBits i : Nat))) ρ
  | _, _ => .bad
def dBitL (de : DE) : DE := d1 bitk de
end
end Gb

namespace Gb
open PySem PySem.Spec L2
section
variable {C : Ct} {W : WX} {pn ch : List Nat} {w w' : Wd} {H H' : Hp} {σ σ' : L2.St} {En : Ends} {X : Cx} {ca : Cad} {ρ : List T} {t u : T} {v x : Option V}
/-! displays of dicts -/
/-- a new dict of shared things, one's own -/
theorem Stt.newD {p : Addr} {ks : List Key} {ds : List D} {kvs : List (Key × V)} (h : Stt C w H ρ σ) (hk : kvs.map (·.1) = ks) (r : RDs C H w.I ds (kvs.map (·.2))) (hp : H p = none) :
    After w H w (upd H p (.dK kvs)) ∧ Stt C w (upd H p (.dK kvs)) (.dicI ks ds :: ρ) (some (.ref p) :: σ) := by
  obtain ⟨F, rt, nd, out, tr, tb⟩ := h
  have ne : ∀ a, (w.I a ∨ w.B a ∨ w.R a) → a ≠ p := fun a z e => by subst e; exact noT_ne (tr a z) hp
  have nf : ∀ a ∈ F, a ≠ p := fun a ha e => by
    obtain ⟨o', ho⟩ := RTs_some _ _ _ rt a ha
    rw [e, hp] at ho; cases ho
  refine ⟨⟨fun a z => z, rfl, rfl, fun a z => .inl z, fun a z => upd_ne (ne a z)⟩, p :: F, ⟨_, σ, [p], F, rfl, ⟨p, kvs, rfl, upd_same, hk, ?_, rfl⟩, ?_, rfl⟩, ?_, fun a ha => ?_, fun a z => ?_, tabs_new tb hp⟩
  · exact RDs_mono (fun a z => ⟨z, upd_ne (ne a (.inl z))⟩) _ _ r
  · exact RTs_mono (w := w) (H := H) (fun a z => ⟨z, upd_ne (ne a (.inl z))⟩) (fun a z => ⟨z, upd_ne (ne a (.inr (.inl z)))⟩) _ _ _ (fun a ha => upd_ne (nf a ha)) rt
  · exact List.nodup_cons.mpr ⟨fun z => nf p z rfl, nd⟩
  · rcases List.mem_cons.mp ha with rfl | ha
    · exact ⟨fun z => ne a (.inl z) rfl, fun z => ne a (.inr (.inl z)) rfl, fun z => ne a (.inr (.inr z)) rfl⟩
    · exact out a ha
  · rw [upd_ne (ne a z)]; exact tr a z
/-- the dict in front is put otherwise -/
theorem Stt.wrD {ks ks' : List Key} {ds ds' : List D} {p : Addr} {kvs' : List (Key × V)} (h : Stt C w H (.dicI ks ds :: ρ) (some (.ref p) :: σ)) (hk : kvs'.map (·.1) = ks') (r : RDs C H w.I ds' (kvs'.map (·.2))) :
    After w H w (upd H p (.dK kvs')) ∧ Stt C w (upd H p (.dK kvs')) (.dicI ks' ds' :: ρ) (some (.ref p) :: σ) := by
  obtain ⟨F, ⟨v0, r0, f1, f2, e, ⟨a, vs, e3, g, k0, rd, rfl⟩, h2, rfl⟩, nd, out, tr, tb⟩ := h
  injection e with e1 e2
  subst e1; subst e2
  cases e3
  have op := out p (by simp)
  have ne : ∀ b, (w.I b ∨ w.B b ∨ w.R b) → b ≠ p := fun b z e => by
    subst e
    rcases z with z | z | z
    · exact op.1 z
    · exact op.2.1 z
    · exact op.2.2 z
  have nf : ∀ b ∈ f2, b ≠ p := fun b hb e => by
    subst e
    exact (List.nodup_append.mp nd).2.2 b (by simp) b hb rfl
  refine ⟨⟨fun _ z => z, rfl, rfl, fun _ z => .inl z, fun b z => upd_ne (ne b z)⟩, [p] ++ f2, ⟨_, σ, [p], f2, rfl, ⟨p, kvs', rfl, upd_same, hk, ?_, rfl⟩, ?_, rfl⟩, nd, out, fun b z => ?_, tabs_wrD tb g⟩
  · exact RDs_mono (fun b z => ⟨z, upd_ne (ne b (.inl z))⟩) _ _ r
  · exact RTs_mono (w := w) (H := H) (fun b z => ⟨z, upd_ne (ne b (.inl z))⟩) (fun b z => ⟨z, upd_ne (ne b (.inr (.inl z)))⟩) _ _ _ (fun b hb => upd_ne (nf b hb)) h2
  · rw [upd_ne (ne b z)]; exact tr b z
theorem Stt.head_dicI {ks : List Key} {ds : List D} (h : Stt C w H (.dicI ks ds :: ρ) (v :: σ)) : ∃ p kvs, v = some (.ref p) ∧ H p = some (.dK kvs) ∧ kvs.map (·.1) = ks ∧ RDs C H w.I ds (kvs.map (·.2)) := by
  obtain ⟨F, ⟨v0, r0, f1, f2, e, ⟨a, vs, e3, g, k0, rd, rfl⟩, h2, rfl⟩, nd, out, tr, tb⟩ := h
  injection e with e1 e2
  subst e1; subst e2
  exact ⟨a, vs, e3, g, k0, rd⟩
def dDic0 : DE := fun ρ => .ok (.dicI [] []) ρ
theorem se_dic0 {pos : Pos} : SE X ca W (.Dict [] [] pos) dDic0 := ⟨PE.imp pe_dnewK fun σ H Q h => by
  obtain ⟨w, ρ, S, k⟩ := h
  intro p hp
  obtain ⟨A, S'⟩ := S.newD (kvs := []) (ks := []) (ds := []) rfl rfl hp
  exact k w _ _ A S'⟩
def fDic1 : T → T → DE := fun x y ρ => match x, y with
  | .imm _ (.int i), .imm false d => .ok (.dicI [.inl i] [d]) ρ
  | _, _ => .bad
def dDic1 (dk dv : DE) : DE := d2 fDic1 dk dv
theorem se_dic1 {k v : Expr} {dk dv : DE} {pos : Pos} (hk : SE X ca W k dk) (hv : SE X ca W v dv) : SE X ca W (.Dict [some k] [v] pos) (dDic1 dk dv) :=
  ⟨PE.imp (pe_disp (pps_cons hk.pe hv.pe pps_nil) rfl rfl (by simp) (by show 1 ≤ 15; omega)) fun σ H Q h => by
    obtain ⟨w, ρ, S, k0⟩ := h
    intro p hp
    obtain ⟨A, S'⟩ := S.newD (kvs := []) (ks := []) (ds := []) rfl rfl hp
    have k1 := kE.after A k0
    unfold dDic1 at k1
    rw [d2] at k1
    refine aside (g := fun x ρ1 => (dv ρ1).bind fun y ρ2 => fDic1 x y ρ2) S' k1 fun w1 H1 y ρ1 yv S1 k2 => ?_
    obtain ⟨wt, eI, eB, S2, back⟩ := S1.push
    obtain ⟨wt2, eI2, eB2, S3, back2⟩ := S2.push
    refine ⟨wt2, ρ1, S3, ?_⟩
    cases ev : dv ρ1 with
    | bad => simp only [ev, ER.bind] at k2; exact k2.elim
    | exc e ρ2 =>
      simp only [ev, ER.bind] at k2
      intro w4 H4 cls dx A4 S4 x4
      obtain ⟨w5, e5, A5, S5⟩ := back2 _ _ _ _ A4 S4
      obtain ⟨w6, e6, A6, S6⟩ := back _ _ _ _ A5 S5
      exact k2 w6 H4 cls dx A6 S6.drop.drop (by rw [e6, e5]; exact x4)
    | ok z ρ2 =>
      simp only [ev, ER.bind] at k2
      intro w4 H4 zv A4 S4
      obtain ⟨w5, e5, A5, S5⟩ := back2 _ _ _ _ A4 S4.drop
      obtain ⟨w6, e6, A6, S6⟩ := back _ _ _ _ A5 S5
      unfold fDic1 at k2
      split at k2
      · rename_i b i d
        have ei := S6.drop.head_int
        obtain ⟨q, kvs, eq, g, k0, rd⟩ := S6.head_dicI
        cases eq
        obtain rfl : kvs = [] := List.map_eq_nil_iff.mp k0
        have rz : RD _ H4 w4.I d zv := S4.head_rd.false
        have rz6 : RD ⟨X.K, ca⟩ H4 w6.I d zv := by rw [e6, e5]; exact rz
        refine ⟨g, [(.inl i, zv)], by rw [ei]; rfl, by show 1 ≤ 15; omega, ?_⟩
        obtain ⟨A7, S7⟩ := S6.drop2.wrD (kvs' := [(.inl i, zv)]) (ks' := [.inl i]) (ds' := [d]) rfl ⟨zv, [], rfl, rz6, rfl⟩
        exact k2 w6 _ _ (A6.trans A7) S7
      · exact k2.elim⟩
/-! exceptions of own classes -/
/-- what the written part says of an own class of exceptions (one without own __init__) -/
structure ExF (K : PySem.W.Frag) (mg : Str → Option Value) (C : Addr) (x : Str) : Prop where
  ex : ∃ B newId initId bmB, ExcBaseFacts B newId initId bmB ∧ PySem.W.excIn K C bmB newId = true
  g : mg x = some (.ref C)
  kp : PySem.W.keepIn K (.ref C) = true
  sub : PySem.W.subIn K (.ref C) (.type "BaseException") = some true
  ty : PySem.W.typeIn K (.ref C) = some (.type "type")
def dRaise (k : Nat) : DS := fun ρ => .exc ⟨k, [], []⟩ ρ
theorem PSs.ex {α : Type} {X : Cx} {sts : List Stmt} {P : α → Prop} {t : α → TS} (h : ∀ a, P a → PSs X sts (t a)) : PSs X sts (fun D σ H => ∃ a, P a ∧ t a D σ H) :=
  ⟨fun pins s σ H D I ⟨a, p, q⟩ => (h a p).run pins s σ H D I q⟩
/-- what an exception is bound to in the suite -/
def exD (a dd : Nat) (e : Ex) : D := .exn a dd e.ns e.vs
/-- try: body / except x as n: suite. r tells of a class whether the clause takes it -/
def trySuite (i : Nat) (ds : Nat → Nat → Ex → DS) (e : Ex) (ρ : List T) : SR := match ds 0 0 e (ρ.set i (.imm false (exD 0 0 e))) with
  | .next ρ1 => .next (ρ1.set i .dead)
  | _ => .bad
open Classical in
noncomputable def dTry (i : Nat) (r : Nat → Option Bool) (db : DS) (ds : Nat → Nat → Ex → DS) : DS := fun ρ => match db ρ with
  | .exc e ρ1 => (match r e.c with
    | some true => if i < ρ1.length ∧ ∀ a dd, ∃ ρ2, ds a dd e (ρ1.set i (.imm false (exD a dd e))) = .next ρ2 ∧ trySuite i ds e ρ1 = .next (ρ2.set i .dead) then trySuite i ds e ρ1 else .bad
    | some false => .exc e ρ1
    | none => .bad)
  | q => q
/-- the class that a clause names -/
def CatchF (K : PySem.W.Frag) (ca : Cad) (c : Value) (r : Nat → Option Bool) : Prop := ∀ k b, r k = some b → PySem.W.exmOne K (.ref (ca k)) c = some b
end
end Gb

namespace PySem.W
open PySem PySem.Spec PySem.Calls PyProof.Rows
section
variable {prog : Program} {w : World} {A : Around} {E : Value → Shared → Prop} {s : Shared} {K : Frag} {x D : Addr} {ox : Obj} {od : Option Obj}
/-- the same as for an instance without a dict: the class comes first -/
theorem gb_findObjO {C : Addr} {name : Str} {a g : Value} (hc : (clsIn K C).isSome = true) (ha : findIn K (.ref C) name = some (some a)) (hg : specialIn K a "__get__" = some (some g)) (ht : takesIn K a = some true) : findObj K C od name = some (.bind g a) := by
  obtain ⟨cd, hc⟩ := Option.isSome_iff_exists.mp hc
  unfold findObj
  rw [hc, Option.bind_some, ha, Option.bind_some]
  simp [hg, ht]
theorem gb_classO {Q : Option Value → Shared → Prop} (hga : findIn K (.ref D) "__getattribute__" = some (some (.builtin "BaseException.__getattribute__"))) (hgt : findIn K (.ref D) "__getattr__" = some none) (hsub : subIn K (.ref D) (.type "BaseException") = some true)
    (hdct : hasDictIn K D = true) (ha : findIn K (.ref D) "__class__" = some (some (.builtin "object.__class__")))
    (hn : specialIn K (.builtin "object.__class__") "__get__" = some (some (.builtin "getset_descriptor.__get__"))) (htk : takesIn K (.builtin "object.__class__") = some true) (hm : mroIn K D (.type "object") = some true)
    (X : K.In s.heap) (I : InstAt s.heap x ox D od) (h : Q (some (.ref D)) { s with toks := s.toks + 1 }) : wpAny (model prog w) A (getAttr? (.ref x) "__class__") Q E s := by
  have hf : findObj K D od "__class__" = some (.bind (.builtin "getset_descriptor.__get__") (.builtin "object.__class__")) := gb_findObjO (by obtain ⟨cd, hc, _⟩ := any_some hdct; rw [hc]; rfl) ha hn htk
  obtain ⟨hp, g, d, t, os⟩ := s
  have L0 := I.type (M := model prog w)
  have L1 := looks_findIn (M := model prog w) X hga
  have L2 := looks_findIn (M := model prog w) X hgt
  have L3 := looks_find (M := model prog w) X I hf
  have sub : Looks (model prog w) hp (isInstance (.ref x) (.type "BaseException")) true := L0.andThen (looks_subIn X hsub)
  have hx0 : (false && onTheHeap (Value.builtin "BaseException.__getattribute__")) = false := rfl
  have hx2 : (Value.builtin "BaseException.__getattribute__" == Value.builtin "object.__getattribute__") = false := by decide +kernel
  have hx1 : (onTheHeap (Value.ref D) && Value.builtin "BaseException.__getattribute__" == Value.builtin "object.__getattribute__") = false := by rw [hx2]; rfl
  unfold getAttr? getAttrBy? getAttrBy
  refine wpAny_bind (wpAny_mkText (wpAny_bind (wpAny_attempt (wpAny_holding (wpAny_bind (L0.at (wpAny_bind (L1.at ?_))))))))
  show wpAny _ _ (if (onTheHeap (Value.ref D) && Value.builtin "BaseException.__getattribute__" == Value.builtin "object.__getattribute__") = true then _ else _) _ _ _
  rw [hx1, if_neg Bool.false_ne_true]
  unfold getAttrByItsOwn hookBefore
  refine wpAny_bind ?_
  rw [if_pos (show onTheHeap (Value.ref D) = true from rfl)]
  refine L2.at ?_
  refine wpAny_bind (wpAny_attempt (wpAny_holding ?_))
  unfold callGetattribute
  rw [hx0, if_neg Bool.false_ne_true]
  unfold boundAndCalled
  rw [PySem.F.excAttr_ValueError.ga.bind (.ref x)]
  refine wpAny_bind (wpAny_pure ?_)
  show wpAny _ _ (call (.builtin "BaseException.__getattribute__") [.ref x, .str "__class__" t]) _ _ _
  refine wpAny_call (codeAny_call_builtin PySem.F.excAttr_ValueError.ga.plain PySem.F.entry_bexc_ga ?_)
  refine @check_slot (model prog w) _ _ ⟨hp, g, d, t + 1, os⟩ "BaseException.__getattribute__" "BaseException" "__getattribute__" (.ref x) [.str "__class__" t] [] _ (by decide +kernel) (by decide +kernel) sub (PySem.F.args_bexc_ga (.ref x) (.str "__class__" t)) ?_
  unfold Builtin.«object.__getattribute__»
  refine wpAny_bind (wpAny_of_eq (a := ((Value.ref x : Value), [Value.str "__class__" t])) (by first | rfl | (simp only [slotArgs]; rfl)) ?_)
  refine wpAny_bind (wpAny_pure (wpAny_bind (L0.at (wpAny_bind (L3.at ?_)))))
  show wpAny _ _ (holding [Value.builtin "object.__class__"] (call (.builtin "getset_descriptor.__get__") [.builtin "object.__class__", .ref x, .ref D]) >>= ret) _ _ _
  refine wpAny_bind (wpAny_holding (wpAny_call (class_get (s := ⟨hp, g, d, t + 1, os⟩) (ox := ox) (od := od) X I hm ?_)))
  refine wpAny_pure ?_
  show wpAny _ _ (handedOut (.ref D)) _ _ _
  rw [handedOut_of (v := .ref D) rfl]
  first
    | exact wpAny_pure (wpAny_pure h)
    | exact wpAny_pure h
    | exact wpAny_pure (wpAny_bind (wpAny_pure (wpAny_pure h)))
theorem gb_kitO (hga : findIn K (.ref D) "__getattribute__" = some (some (.builtin "BaseException.__getattribute__"))) (hgt : findIn K (.ref D) "__getattr__" = some none) (hsub : subIn K (.ref D) (.type "BaseException") = some true) (hdct : hasDictIn K D = true) (ha : findIn K (.ref D) "__class__" = some (some (.builtin "object.__class__")))
    (hn : specialIn K (.builtin "object.__class__") "__get__" = some (some (.builtin "getset_descriptor.__get__"))) (htk : takesIn K (.builtin "object.__class__") = some true) (hm : mroIn K D (.type "object") = some true) :
    KitX K (.ref x) (.ref D) (fun h => InstAt h x ox D od) where
  ty := fun _ _ _ I => I.type
  it := fun _ _ X _ => by
    obtain ⟨cdD, hcD, _⟩ := any_some hdct
    unfold clsIn at hcD
    split at hcD
    · rename_i c' d' cd' sl' ho
      intro A' Q' E' s' k q
      unfold isType loadHead
      exact wpAny_bind (wpAny_loadPart (k _ _ (X _ _ ho)) (wpAny_pure q))
    · cases hcD
  ne := fun h tp dd its n sl X htp => by
    obtain ⟨cdD, hcD, _⟩ := any_some hdct
    refine Bool.eq_false_iff.mpr fun q => ?_
    have e : D = tp := Value.ref.inj (beq_iff_eq.mp q)
    subst e
    unfold clsIn at hcD
    split at hcD
    · rename_i c' d' cd' sl' ho
      have z := (X _ _ ho).symm.trans htp
      cases z
    · cases hcD
  ca := fun X I k => gb_classO hga hgt hsub hdct ha hn htk hm X I k
end
end PySem.W
namespace Gb
open PySem PySem.Spec L2
section
variable {C : Ct} {W : WX} {pn ch : List Nat} {w w' : Wd} {H H' : Hp} {σ σ' : L2.St} {En : Ends} {X : Cx} {ca : Cad} {ρ : List T} {t u : T} {v x : Option V}
/-- the caught exception, its class D, its dict d if it has one -/
def DictAt (H : Hp) (d : Option Addr) : Prop := d = none ∨ ∃ dd fs, d = some dd ∧ H dd = some (.xd fs)
def rIsE1 (K : PySem.W.Frag) (D a : Addr) (d : Option Addr) : List V → Hp → VK → Prop := fun xs H Q => ∃ (c : V) (cv : Value) (b : Bool), xs = [.ref a, c] ∧ ClsV c cv ∧ PySem.W.kitOne K (.ref D) cv = some b ∧ DictAt H d ∧ Q (.bl b) H
/-- a class's name -/
structure ClsE (X : Cx) (e : Expr) (c : V) (u : Value) : Prop where
  pe : PE X e (tC c)
  cv : ClsV c u
theorem ce_own {x : Str} {D : Addr} {pos : Pos} (hm : X.mg x = some (.ref D)) (hg : Gl X x := by rfl) (hd : (x == ("__debug__" : Str)) = false := by decide) : ClsE X (.Name x pos) (.ref D) (.ref D) := ⟨pe_glob (v := .ref D) hg hm rfl hd, .own D⟩
theorem ce_ty {x : Str} {n : String} {pos : Pos} (hm : X.mg x = none) (hv : bootBuiltins x = some (.type n)) (hg : Gl X x := by rfl) (hn : x ≠ "__name__" := by decide) (hd : (x == ("__debug__" : Str)) = false := by decide) : ClsE X (.Name x pos) (.ty n) (.type n) := ⟨pe_bltn (v := .ty n) hg hm hv rfl hn hd, .ty n⟩
def tAll (cs : List V) : TA := fun _ H Q => Q cs H
structure ClsEs (X : Cx) (es : List Expr) (cs : List V) (us : List Value) : Prop where
  pa : PA X es (tAll cs)
  cv : Paired ClsV cs us
def anyO : List (Option Bool) → Option Bool
  | [] => some false
  | some true :: _ => some true
  | some false :: r => anyO r
  | none :: _ => none
/-- what isinstance answers of exceptions of each class -/
def IsF (K : PySem.W.Frag) (ca : Cad) (u : Value) (r : Nat → Option Bool) : Prop := ∀ k b, r k = some b → ExcC K (ca k) ∧ PySem.W.kitOne K (.ref (ca k)) u = some b
def dIsE (a dd : Nat) (e : Ex) (i : Nat) (r : Option Bool) : DE := fun ρ => match ρ[i]? with
  | some (.imm b (.exn a' dd' ns vs)) => if b = false ∧ a' = a ∧ dd' = dd ∧ ns = e.ns then (match r with
    | some b => .ok (.imm false (.bl b)) ρ
    | none => .bad) else .bad
  | _ => .bad
theorem exc_slot {i a dd : Nat} {e : Ex} {d : Option Addr} {ns : List Str} {vs : List D} (S : Stt C w H ρ σ) (hi : ρ[i]? = some (.imm false (.exn a dd ns vs))) (hn : ns = e.ns) (hd : d = if e.ns = [] then none else some dd) :
    σ[i]? = some (some (.ref a)) ∧ DictAt H d ∧ (e.ns ≠ [] → ∃ fs, w.I dd ∧ H dd = some (.xd fs) ∧ fs.map (·.1) = e.ns ∧ RDs C H w.I vs (fs.map (·.2))) := by
  obtain ⟨v, hv, S1⟩ := S.move hi
  obtain ⟨y, rfl, ey, r⟩ := S1.head_imm
  subst ey
  subst hn
  refine ⟨hv, ?_, fun hne => ?_⟩
  · by_cases h0 : e.ns = []
    · rw [if_pos h0] at hd; exact .inl hd
    · rw [if_neg h0] at hd
      rcases r with r | ⟨fs, h1, h2, _⟩
      · exact absurd r h0
      · exact .inr ⟨dd, fs, hd, h2⟩
  · rcases r with r | ⟨fs, h1, h2, h3, h4⟩
    · exact absurd r hne
    · exact ⟨fs, im_false h1, h2, h3, h4.false⟩
/-! e.field -/
def lookF (f : Str) : List Str → List D → Option D
  | n :: ns, d :: ds => if n = f then some d else lookF f ns ds
  | _, _ => none
def dXf (a dd : Nat) (e : Ex) (i : Nat) (f : Str) (ok : Nat → Bool) : DE := fun ρ => match ρ[i]? with
  | some (.imm b (.exn a' dd' ns vs)) => if b = false ∧ a' = a ∧ dd' = dd ∧ ns = e.ns ∧ e.ns ≠ [] ∧ ok e.c = true then (match lookF f ns vs with
    | some d => .ok (.imm false d) ρ
    | none => .bad) else .bad
  | _ => .bad
theorem lookF_spec {A : Addr → Prop} {f : Str} : ∀ {ns : List Str} {vs : List D} {fs : List (Str × V)} {d : D}, fs.map (·.1) = ns → RDs C H A vs (fs.map (·.2)) → lookF f ns vs = some d → ∃ v, fs.lookup f = some v ∧ RD C H A d v
  | [], _, _, _, _, _, h => by simp [lookF] at h
  | _ :: _, [], _, _, _, _, h => by simp [lookF] at h
  | n :: ns, d0 :: ds, [], d, h1, _, _ => by simp at h1
  | n :: ns, d0 :: ds, (m, y) :: fs, d, h1, h2, h => by
    simp only [List.map_cons, List.cons.injEq] at h1
    obtain ⟨rfl, h1⟩ := h1
    obtain ⟨v, r, e, h3, h4⟩ := h2
    simp only [List.map_cons, List.cons.injEq] at e
    obtain ⟨rfl, rfl⟩ := e
    unfold lookF at h
    by_cases hm : m = f
    · subst hm
      rw [if_pos rfl] at h
      cases h
      exact ⟨y, by simp [List.lookup], h3⟩
    · rw [if_neg hm] at h
      obtain ⟨v, h5, h6⟩ := lookF_spec h1 h4 h
      exact ⟨v, by rw [List.lookup_cons, beq_false_of_ne (fun z => hm z.symm)]; exact h5, h6⟩
def XfF (K : PySem.W.Frag) (ca : Cad) (f : Str) (ok : Nat → Bool) : Prop := ∀ k, ok k = true → XfC K (ca k) ∧ PySem.W.findIn K (.ref (ca k)) f = some none
/-! the facts -/
theorem kit_fact {K : PySem.W.Frag} {D E : Addr} {b : Bool} (sDD : PySem.W.subIn K (.ref D) (.ref D) = some true) (ht : PySem.W.typeIn K (.ref E) = some (.type "type")) (hd : PySem.W.hasDictIn K E = true) (h : PySem.W.subIn K (.ref D) (.ref E) = some b) : PySem.W.kitOne K (.ref D) (.ref E) = some b := by
  unfold PySem.W.kitOne
  by_cases e : D = E
  · subst e
    rw [sDD] at h
    rw [if_pos (by simp)]
    exact h
  · rw [if_neg (by simpa using e)]
    obtain ⟨cd, hc, _⟩ := PySem.W.any_some hd
    show (if ((PySem.W.clsIn K E).isSome && PySem.W.typeIn K (.ref E) == some (.type "type")) = true then PySem.W.subIn K (.ref D) (.ref E) else none) = some b
    rw [if_pos (by rw [hc, ht]; rfl), h]
theorem kit_factT {K : PySem.W.Frag} {D : Addr} {n : String} {b : Bool} (hm : PySem.W.kitMeta n = true) (h : PySem.W.subIn K (.ref D) (.type n) = some b) : PySem.W.kitOne K (.ref D) (.type n) = some b := by
  unfold PySem.W.kitOne
  rw [if_neg (by simp)]
  show (if PySem.W.kitMeta n = true then PySem.W.subIn K (.ref D) (.type n) else none) = some b
  rw [if_pos hm, h]
/-- of exceptions of the classes ks: class 0 is the base of all, 100 ValueError -/
def isT (ks : List Nat) (j k : Nat) : Option Bool := if k ∈ ks then some (j == k || j == 0 || j == 100) else none
theorem isT_cases {ks : List Nat} {j k : Nat} {b : Bool} (h : isT ks j k = some b) : k ∈ ks ∧ some b = some (j == k || j == 0 || j == 100) := by
  unfold isT at h
  split at h
  · rename_i hm
    exact ⟨hm, h.symm⟩
  · cases h
theorem catch_fact {K : PySem.W.Frag} {D E : Addr} {r : Option Bool} {b : Bool} (e : r = some b) (h1 : PySem.W.subIn K (.ref E) (.type "BaseException") = some true) (hd : PySem.W.hasDictIn K E = true) (ht : PySem.W.typeIn K (.ref E) = some (.type "type")) (h4 : PySem.W.subIn K (.ref D) (.ref E) = r) : PySem.W.exmOne K (.ref D) (.ref E) = some b :=
  PySem.W.exm_ref h1 hd ht (h4.trans e)
end
end Gb

namespace Gb
open PySem PySem.Spec L2
section
variable {C : Ct} {W : WX} {pn ch : List Nat} {w w' : Wd} {H H' : Hp} {σ σ' : L2.St} {En : Ends} {X : Cx} {ca : Cad} {ρ : List T} {t u : T} {v x : Option V}
/-! repr of plain data -/
def shwOk (p : PyData) : Bool := p.showable && (!p.hasDict && (decide (p.depth ≤ 60) && decide (p.shown.length ≤ sizeLine)))
def D.shw (d : D) : Option Str := d.py.bind fun p => if shwOk p then some p.shown else none
def fRepr : List T → List T → ER T := fun ts ρ => match ts with
  | [.imm _ d] => match d.shw with
    | some s => .ok (.imm false (.str s)) ρ
    | none => .bad
  | _ => .bad
/-! range(i, j, c) -/
def rangeDs (lo c : Int) (n : Nat) : List D := (List.range n).map fun (i : Nat) => D.int (lo + i * c)
instance {i j c : Int} {n : Nat} : Decidable (RgC i j c n) := by unfold RgC; exact inferInstance
def rangeItems3 : List T → List T → ER (Bool × List D)
  | [.imm _ (.int i), .imm _ (.int j), .imm _ (.int c)], ρ =>
    if RgC i j c (Builtin.Range.rangeSize i j c).toNat ∧ (Builtin.Range.rangeSize i j c).toNat ≤ 16777216 then .ok (false, rangeDs i c (Builtin.Range.rangeSize i j c).toNat) ρ else .bad
  | _, _ => .bad
def diRange3 (da : DA) : DI := fun ρ => (da ρ).bind rangeItems3
/-! x in l -/
def D.inL (d e : D) : Option Bool := match d.py, e.py with
  | some p, some (.list qs) => if SeqAt.shaped p && SeqAt.shaped (.list qs) then some (qs.any fun z => PyData.eqv z p) else none
  | _, _ => none
def gIn : D → D → Option D := fun d e => (d.inL e).map D.bl
def gNin : D → D → Option D := fun d e => (d.inL e).map fun b => D.bl (!b)
end
/-! what can be shown: ints of up to seventy figures, texts -/
mutual
def D.dp : D → Nat
  | .lst xs | .tup xs => D.dps xs + 1
  | .non | .bl _ | .int _ | .str _ | .scr _ | .ty _ | .dic _ _ | .obj _ _ _ | .exn _ _ _ _ | .exv _ _ _ => 0
def D.dps : List D → Nat
  | [] => 0
  | d :: ds => max d.dp (D.dps ds)
end
mutual
def D.bk : D → Nat
  | .str x => x.cps.size
  | .lst xs | .tup xs => D.bks xs
  | .non | .bl _ | .int _ | .scr _ | .ty _ | .dic _ _ | .obj _ _ _ | .exn _ _ _ _ | .exv _ _ _ => 0
def D.bks : List D → Nat
  | [] => 0
  | d :: ds => d.bk + 1 + D.bks ds
end
end Gb

namespace Gb
open PySem PySem.Spec L2
section
variable {C : Ct} {W : WX} {pn ch : List Nat} {w w' : Wd} {H H' : Hp} {σ σ' : L2.St} {En : Ends} {X : Cx} {ca : Cad} {ρ : List T} {t u : T} {v x : Option V}
/-! pairs of ints: <, min -/
def ltP (p q : Int × Int) : Bool := decide (p.1 < q.1 ∨ (p.1 = q.1 ∧ p.2 < q.2))
def pairOf : D → Option (Int × Int)
  | .tup [.int a, .int b] => some (a, b)
  | _ => none
def gLt : D → D → Option D := fun d e => match pairOf d, pairOf e with
  | some p, some q => some (.bl (ltP p q))
  | _, _ => gCmp (fun i j => decide (i < j)) d e
/-! min of a list of pairs -/
def minP (p : Int × Int) (ps : List (Int × Int)) : Int × Int := ps.foldl (fun a y => if ltP y a then y else a) p
def prs : List D → Option (List (Int × Int))
  | [] => some []
  | d :: ds => match pairOf d, prs ds with
    | some p, some ps => some (p :: ps)
    | _, _ => none
def fMinP : List T → List T → ER T := fun ts ρ => match ts with
  | [.imm b (.lst ds)] => match prs ds with
    | some (p :: ps) => .ok (.imm b (.tup [.int (minP p ps).1, .int (minP p ps).2])) ρ
    | _ => fMin ts ρ
  | _ => fMin ts ρ
end
end Gb

namespace Gb
open PySem PySem.Calls PyProof.Rows PySem.W
section
variable {prog : Program} {w : World} {A : Around} {E : Value → Shared → Prop} {s : Shared}
end
end Gb

namespace Gb
open PySem PySem.Calls PyProof.Rows PySem.W
section
variable {prog : Program} {w : World} {A : Around} {E : Value → Shared → Prop} {s : Shared} {env : Env}
end
end Gb

namespace Gb
open PySem PySem.Calls PyProof.Rows PySem.W
section
variable {prog : Program} {w : World} {A : Around} {E : Value → Shared → Prop} {s : Shared} {env : Env}
end
end Gb

namespace Gb
open PySem PySem.Spec L2 PyProof.Rows
def keyR (rk : Nat → Int) (i : Nat) : PyData := .tuple [.int (rk i), .int (i : Int)]
section
variable {X : Cx} {pins : List (Addr × Obj)} {σ : L2.St} {H : Hp} {s : Shared}
end
end Gb

namespace Gb
open PySem PySem.Spec L2 PyProof.Rows LamX
section
variable {X : Cx}
end
end Gb

namespace Gb
open PySem PySem.Spec L2 PyProof.Rows LamX
def fstI : D → Option Int
  | .tup (.int r :: _) => some r
  | _ => none
def rkOf (ds : List D) (j : Nat) : Int := ((ds[j]?).bind fstI).getD 0
def ordL (ds : List D) : List Nat := (List.range ds.length).mergeSort (PySem.W.dataLe false (keyR (rkOf ds)))
def gOrd : T → Option T → Option T
  | .imm _ (.int n), some (.imm _ (.lst ds)) => if n = ds.length ∧ ds.length ≤ 100000 ∧ (ds.all fun d => (fstI d).isSome) = true then some (.lstI ((ordL ds).map fun i => D.int (i : Nat))) else none
  | _, _ => none
def fOrd (i : Nat) : T → List T → ER T := fun t ρ => match gOrd t ρ[i]? with
  | some r => .ok r ρ
  | none => .bad
def dOrd (i : Nat) (de : DE) : DE := d1 (fOrd i) de
section
variable {X : Cx} {ca : Cad} {W : WX}
/-- the def's code object, its table, the name of the lambda within -/
structure LamT (ca : Cad) (base : Heap) (mg : Str → Option Value) (cdv : Value) (q : Str) : Prop where
  ex : ∃ c P, cdv = .ref c ∧ TabB base mg c P ∧ (P, q) ∈ ca.T ∧ ∀ p ∈ ca.T, p.1 = P → p.2 = q
end
end Gb

namespace Gb
open PySem PySem.Spec L2
/-! sorted(a list of ints); list(range(n)) -/
def sortI (ns : List Int) : List Int := ns.mergeSort fun a b => decide (a ≤ b)
def sortk (ρ : List T) : Option (List Int) → ER T
  | some ns => .ok (.lstI ((sortI ns).map D.int)) ρ
  | none => .bad
def fSortI : List T → List T → ER T
  | [.imm _ (.lst ds)], ρ => sortk ρ (D.ints ds)
  | _, _ => .bad
section
variable {X : Cx} {ca : Cad} {W : WX}
def fLstRg : T → DE
  | .imm _ (.int n), ρ => if 0 ≤ n ∧ n ≤ 16777216 then .ok (.lstI (rangeD 0 n.toNat)) ρ else .bad
  | _, _ => .bad
def dLstRg (de : DE) : DE := d1 fLstRg de
end
end Gb

namespace Gb
open PySem PySem.Spec L2 PyProof.Rows
/-! min(a list of ints, default=a written int) -/
def minDef (z : Int) : List Int → Int
  | [] => z
  | n :: ns => ns.foldl min n
section
variable {X : Cx}
end
def mindk (z : Int) (ρ : List T) : Option (List Int) → ER T
  | some ns => .ok (.imm false (.int (minDef z ns))) ρ
  | none => .bad
def fMinDef (z : Int) : T → DE
  | .imm _ (.lst ds), ρ => mindk z ρ (D.ints ds)
  | _, _ => .bad
def dMinDef (z : Int) (de : DE) : DE := d1 (fMinDef z) de
section
variable {X : Cx} {ca : Cad} {W : WX}
end
end Gb

namespace Gb
open PySem PySem.Spec L2
/-! what a denotation answers, step by step -/
def bnd {α β : Type} (r : ER α) (k : α → List T → ER β) : ER β := r.bind k
section
variable {α β : Type} {a : α} {ρ : List T} {k : α → List T → ER β} {x : Ex} {da db dc de : DE} {dr : DA} {c d e : D} {b b1 b2 b3 : Bool} {i j : Int} {n : Nat} {ds : List D} {t u : T} {ts : List T}
theorem v_bnd : bnd (.ok a ρ) k = k a ρ := rfl
theorem v_bnd_exc : bnd (.exc x ρ) k = .exc x ρ := rfl
theorem v_bnd_bad : bnd .bad k = .bad := rfl
theorem v_bnd_ite {p : Prop} [Decidable p] {r s : ER α} : bnd (if p then r else s) k = if p then bnd r k else bnd s k := by split <;> rfl
theorem v_d1 {f : T → DE} : d1 f da ρ = bnd (da ρ) f := rfl
def d2k (f : T → T → DE) (db : DE) : T → DE := fun x ρ => bnd (db ρ) (f x)
theorem v_d2 {f : T → T → DE} : d2 f da db ρ = bnd (da ρ) (d2k f db) := rfl
theorem v_d2k {f : T → T → DE} : d2k f db t ρ = bnd (db ρ) (f t) := rfl
def okS (r : Option D) (ρ : List T) : ER T := match r with
  | some r => .ok (.imm false r) ρ
  | none => .bad
theorem v_okS : okS (some d) ρ = .ok (.imm false d) ρ := rfl
theorem v_fS {g : D → D → Option D} : fS g (.imm b1 d) (.imm b2 e) ρ = okS (g d e) ρ := by
  unfold fS okS
  rfl
theorem v_gInt {f : Int → Int → Option Int} : gInt f (.int i) (.int j) = (f i j).map D.int := rfl
theorem v_gCmp {f : Int → Int → Bool} : gCmp f (.int i) (.int j) = some (.bl (f i j)) := rfl
theorem v_eq_int : gEq (.int i) (.int j) = some (.bl (decide (i = j))) := by simp [gEq]
theorem v_ne_int : gNe (.int i) (.int j) = some (.bl (!decide (i = j))) := by simp [gNe]
theorem v_eq_bl : gEq (.bl b1) (.bl b2) = some (.bl (b1 == b2)) := by simp [gEq]
theorem v_ne_bl : gNe (.bl b1) (.bl b2) = some (.bl (!(b1 == b2))) := by simp [gNe]
theorem v_gLt_int : gLt (.int i) (.int j) = some (.bl (decide (i < j))) := rfl
theorem v_gLt_pair {i2 j2 : Int} : gLt (.tup [.int i, .int i2]) (.tup [.int j, .int j2]) = some (.bl (ltP (i, i2) (j, j2))) := rfl
theorem v_eq_strS {s : Str} : gEq (.str s) (.str s) = some (.bl true) := by simp [gEq]
theorem v_eq_str {s t : Str} : gEq (.str s) (.str t) = some (.bl (decide (s = t))) := rfl
theorem v_ne_strS {s : Str} : gNe (.str s) (.str s) = some (.bl false) := by simp [gNe]
theorem v_ne_str {s t : Str} : gNe (.str s) (.str t) = some (.bl (!decide (s = t))) := rfl
theorem v_eq_ni : gEq .non (.int j) = some (.bl false) := by simp [gEq]
theorem v_eq_in : gEq (.int j) .non = some (.bl false) := by simp [gEq]
theorem v_eq_nn : gEq .non .non = some (.bl true) := by simp [gEq]
theorem v_ne_ni : gNe .non (.int j) = some (.bl true) := by simp [gNe]
theorem v_ne_in : gNe (.int j) .non = some (.bl true) := by simp [gNe]
theorem v_ne_nn : gNe .non .non = some (.bl false) := by simp [gNe]
theorem v_is_non : gIs d .non = some (.bl d.isNon) := rfl
theorem v_is_bl : gIs (.bl b1) (.bl b2) = some (.bl (b1 == b2)) := rfl
theorem v_isnot_non : gIsNot d .non = some (.bl (!d.isNon)) := rfl
theorem v_isnot_bl : gIsNot (.bl b1) (.bl b2) = some (.bl (!(b1 == b2))) := rfl
theorem v_isn_non : D.isNon .non = true := rfl
theorem v_isn_bl : D.isNon (.bl b) = false := rfl
theorem v_isn_int : D.isNon (.int i) = false := rfl
theorem v_isn_str {s : Str} : D.isNon (.str s) = false := rfl
theorem v_isn_lst : D.isNon (.lst ds) = false := rfl
theorem v_isn_tup : D.isNon (.tup ds) = false := rfl
theorem v_mod (h : 0 < j) : modI i j = some (i % j) := by
  unfold modI; rw [if_pos (decide_eq_true h)]
theorem mid_of (h1 : -18446744073709551616 < j) (h2 : j < 18446744073709551616) : mid j = true := by
  unfold mid B200
  exact decide_eq_true (by omega)
theorem v_div (h : 0 < j) (h2 : j < 18446744073709551616) : divI i j = some (i / j) := by
  unfold divI; rw [decide_eq_true h, mid_of (by omega) h2]; rfl
theorem v_mul_l (h1 : -18446744073709551616 < i) (h2 : i < 18446744073709551616) : mulI i j = some (i * j) := by
  have e : small i = true := decide_eq_true ⟨h1, h2⟩
  unfold mulI; rw [e, Bool.true_or, Bool.true_or]; rfl
theorem v_mul_r (h1 : -18446744073709551616 < j) (h2 : j < 18446744073709551616) : mulI i j = some (i * j) := by
  have e : small j = true := decide_eq_true ⟨h1, h2⟩
  unfold mulI; rw [e, Bool.or_true, Bool.true_or]; rfl
theorem v_mul_mm (h1 : -10000000000000000000000000000000000000000000000000000000000000000000000000000000000000000000000000000 < i) (h2 : i < 10000000000000000000000000000000000000000000000000000000000000000000000000000000000000000000000000000) (h3 : -10000000000000000000000000000000000000000000000000000000000000000000000000000000000000000000000000000 < j) (h4 : j < 10000000000000000000000000000000000000000000000000000000000000000000000000000000000000000000000000000) : mulI i j = some (i * j) := by
  have e1 : mid i = true := by unfold mid B200; exact decide_eq_true (by omega)
  have e2 : mid j = true := by unfold mid B200; exact decide_eq_true (by omega)
  unfold mulI; rw [e1, e2, Bool.and_self, Bool.or_true]; rfl
theorem v_pow (h1 : -18446744073709551616 < i) (h2 : i < 18446744073709551616) (h3 : 0 ≤ j) (h4 : j ≤ 1000000) : powI i j = some (i ^ j.toNat) := by
  have e : small i = true := decide_eq_true ⟨h1, h2⟩
  unfold powI; rw [e, decide_eq_true h3, decide_eq_true h4]; rfl
theorem v_shl (h0 : mid i = true) (h1 : 0 ≤ j) (h2 : j ≤ 100000) : shlI i j = some (i * 2 ^ j.toNat) := by
  unfold shlI; rw [h0, decide_eq_true h1, decide_eq_true h2]; rfl
theorem v_shls (h0 : -18446744073709551616 < i) (h00 : i < 18446744073709551616) (h1 : 0 ≤ j) (h2 : j ≤ 100000) : shlI i j = some (i * 2 ^ j.toNat) := v_shl (mid_of h0 h00) h1 h2
theorem v_shl_mm (h0 : -10000000000000000000000000000000000000000000000000000000000000000000000000000000000000000000000000000 < i) (h00 : i < 10000000000000000000000000000000000000000000000000000000000000000000000000000000000000000000000000000) (h1 : 0 ≤ j) (h2 : j ≤ 100000) : shlI i j = some (i * 2 ^ j.toNat) :=
  v_shl (by unfold mid B200; exact decide_eq_true (by omega)) h1 h2
theorem v_shr (h : 0 ≤ j) : shrI i j = some (i / 2 ^ j.toNat) := by
  unfold shrI; rw [if_pos (decide_eq_true h)]
theorem v_add_int : fAdd (.imm b1 (.int i)) (.imm b2 (.int j)) ρ = .ok (.imm false (.int (i + j))) ρ := rfl
theorem v_add_str {s z : Str} (h : s.length + z.length ≤ sizeLine) : fAdd (.imm b1 (.str s)) (.imm b2 (.str z)) ρ = .ok (.imm false (.str (s ++ z))) ρ := by
  unfold fAdd; simp only [if_pos h]
theorem v_add_lst {xs ys : List D} (h : xs.length + ys.length ≤ 16777216) : fAdd (.imm false (.lst xs)) (.imm false (.lst ys)) ρ = .ok (.lstI (xs ++ ys)) ρ := by
  unfold fAdd; simp only [if_pos (show xs.length + ys.length ≤ sizeLine from h)]
theorem v_add_tup {xs ys : List D} (h : xs.length + ys.length ≤ 16777216) : fAdd (.imm b1 (.tup xs)) (.imm b2 (.tup ys)) ρ = .ok (.imm (b1 || b2) (.tup (xs ++ ys))) ρ := by
  unfold fAdd; simp only [if_pos (show xs.length + ys.length ≤ sizeLine from h)]
theorem v_mul_int : fMul (.imm b1 (.int i)) (.imm b2 (.int j)) ρ = okS ((mulI i j).map D.int) ρ := by
  simp only [fMul, okS]
  cases mulI i j <;> simp
theorem v_mul_lst {xs : List D} (h1 : -16777216 < i) (h2 : i < 16777216) (h3 : xs.length * i.toNat ≤ 16777216) : fMul (.imm false (.lst xs)) (.imm b2 (.int i)) ρ = .ok (.lstI (List.replicate i.toNat xs).flatten) ρ := by
  unfold fMul
  simp only [decide_eq_true h1, decide_eq_true h2, decide_eq_true (show xs.length * i.toNat ≤ sizeLine from h3)]
  rfl
theorem v_U {g : Int → Int} : fU g (.imm b (.int i)) ρ = .ok (.imm false (.int (g i))) ρ := rfl
def vark (i : Nat) (ρ : List T) : Option T → ER T
  | some t => (match t.frz with
    | some (b, d) => .ok (.imm b d) (ρ.set i (.imm b d))
    | none => .bad)
  | none => .bad
theorem v_var : dVar n ρ = vark n ρ ρ[n]? := rfl
theorem v_vark : vark n ρ (some (.imm b d)) = .ok (.imm b d) (ρ.set n (.imm b d)) := rfl
theorem v_vark_dicI {ks : List Key} : vark n ρ (some (.dicI ks ds)) = .ok (.imm false (.dic ks ds)) (ρ.set n (.imm false (.dic ks ds))) := rfl
theorem v_movk_dicI0 {ks : List Key} : T.frz (.dicI ks ds) = some (false, .dic ks ds) := rfl
theorem v_vark_lstI : vark n ρ (some (.lstI ds)) = .ok (.imm false (.lst ds)) (ρ.set n (.imm false (.lst ds))) := rfl
def movk (i : Nat) (ρ : List T) : Option T → ER T
  | some .dead => .bad
  | some (.bag _ _) => .bad
  | some t => .ok t (ρ.set i .dead)
  | none => .bad
theorem v_move : dMove n ρ = movk n ρ ρ[n]? := by
  unfold dMove movk
  cases ρ[n]? with
  | none => rfl
  | some t => cases t <;> rfl
theorem v_movk : movk n ρ (some (.imm b d)) = .ok (.imm b d) (ρ.set n .dead) := rfl
theorem v_movk_lstI : movk n ρ (some (.lstI ds)) = .ok (.lstI ds) (ρ.set n .dead) := rfl
theorem v_movk_lst : movk n ρ (some (.lst ts)) = .ok (.lst ts) (ρ.set n .dead) := rfl
def lend2 (n : Nat) (t : T) (m : Nat) : ER T → ER T
  | .ok r ρ' => if noBs (r :: ρ'.set n t) && decide (ρ'.length = m) then .ok r (ρ'.set n t) else .bad
  | .exc e ρ' => if noBs (ρ'.set n t) && decide (ρ'.length = m) then .exc e (ρ'.set n t) else .bad
  | .bad => .bad
def lendk (n : Nat) (de : DE) (ρ : List T) : Option T → ER T
  | some t => (match t.frz with
    | some (_, d) => lend2 n t ρ.length (de (ρ.set n (.imm true d)))
    | none => .bad)
  | none => .bad
theorem v_Lend : dLend n de ρ = lendk n de ρ ρ[n]? := by
  unfold dLend lendk lend2
  cases ρ[n]? with
  | none => rfl
  | some t =>
    simp only <;> cases t.frz with
    | none => rfl
    | some p =>
      obtain ⟨b, d⟩ := p
      simp only <;> cases de (ρ.set n (.imm true d)) <;> rfl
def lendt2 (n : Nat) (t : T) (m : Nat) : ER Bool → ER Bool
  | .ok r ρ' => if noBs (ρ'.set n t) && decide (ρ'.length = m) then .ok r (ρ'.set n t) else .bad
  | .exc e ρ' => if noBs (ρ'.set n t) && decide (ρ'.length = m) then .exc e (ρ'.set n t) else .bad
  | .bad => .bad
def lendtk (n : Nat) (dt : DT) (ρ : List T) : Option T → ER Bool
  | some t => (match t.frz with
    | some (_, d) => lendt2 n t ρ.length (dt (ρ.set n (.imm true d)))
    | none => .bad)
  | none => .bad
theorem v_tLend {dt : DT} : dtLend n dt ρ = lendtk n dt ρ ρ[n]? := by
  unfold dtLend lendtk lendt2
  cases ρ[n]? with
  | none => rfl
  | some t =>
    simp only <;> cases t.frz with
    | none => rfl
    | some p =>
      obtain ⟨b, d⟩ := p
      simp only <;> cases dt (ρ.set n (.imm true d)) <;> rfl
theorem v_lendtk {dt : DT} : lendtk n dt ρ (some (.imm b d)) = lendt2 n (.imm b d) ρ.length (dt (ρ.set n (.imm true d))) := rfl
theorem v_lendtk_lstI {dt : DT} : lendtk n dt ρ (some (.lstI ds)) = lendt2 n (.lstI ds) ρ.length (dt (ρ.set n (.imm true (.lst ds)))) := rfl
theorem v_lendt2 {m : Nat} : lendt2 n t m (.ok b ρ) = if noBs (ρ.set n t) && decide (ρ.length = m) then .ok b (ρ.set n t) else .bad := rfl
def lsvk (ρ : List T) : Option T → ER T
  | some (.lstI ds) => .ok (.lstI ds) ρ
  | _ => .bad
theorem v_ListV : dListV n ρ = lsvk ρ ρ[n]? := by
  unfold dListV lsvk
  rfl
theorem v_lsvk : lsvk ρ (some (.lstI ds)) = .ok (.lstI ds) ρ := rfl
theorem v_lendk : lendk n de ρ (some (.imm b d)) = lend2 n (.imm b d) ρ.length (de (ρ.set n (.imm true d))) := rfl
theorem v_lendk_lstI : lendk n de ρ (some (.lstI ds)) = lend2 n (.lstI ds) ρ.length (de (ρ.set n (.imm true (.lst ds)))) := rfl
theorem v_lend2 {m : Nat} : lend2 n t m (.ok u ρ) = if noBs (u :: ρ.set n t) && decide (ρ.length = m) then .ok u (ρ.set n t) else .bad := rfl
theorem v_noBs_nil : noBs [] = true := rfl
theorem v_noBs : noBs (t :: ts) = (noB t && noBs ts) := rfl
theorem v_noB_imm : noB (.imm b d) = !b := rfl
theorem v_noB_dead : noB .dead = true := rfl
theorem v_noB_lstI : noB (.lstI ds) = true := rfl
theorem v_noB_lst : noB (.lst ts) = noBs ts := rfl
theorem v_C : dC d ρ = .ok (.imm false d) ρ := rfl
def frk (t : T) (ρ : List T) : ER T := match t.frz with
  | some (b, d) => .ok (.imm b d) ρ
  | none => .bad
theorem v_Fr : dFr de ρ = bnd (de ρ) frk := rfl
theorem v_frk : frk (.imm b d) ρ = .ok (.imm b d) ρ := rfl
theorem v_frk_lstI : frk (.lstI ds) ρ = .ok (.imm false (.lst ds)) ρ := rfl
theorem v_Dic0 : dDic0 ρ = .ok (.dicI [] []) ρ := rfl
theorem v_Dic1 : dDic1 da db ρ = bnd (da ρ) (d2k fDic1 db) := rfl
theorem v_fDic1 : fDic1 (.imm b (.int i)) (.imm false d) ρ = .ok (.dicI [.inl i] [d]) ρ := by cases b <;> rfl
theorem v_frk_dicI {ks : List Key} : frk (.dicI ks ds) ρ = .ok (.imm false (.dic ks ds)) ρ := rfl
theorem v_isn_dic {ks : List Key} : D.isNon (.dic ks ds) = false := rfl
theorem v_Nil : dNil ρ = .ok [] ρ := rfl
def consk2 (t : T) : List T → List T → ER (List T) := fun ts ρ => .ok (t :: ts) ρ
def consk (dr : DA) : T → List T → ER (List T) := fun t ρ => bnd (dr ρ) (consk2 t)
theorem v_Cons : dCons da dr ρ = bnd (da ρ) (consk dr) := rfl
theorem v_consk : consk dr t ρ = bnd (dr ρ) (consk2 t) := rfl
theorem v_consk2 : consk2 t ts ρ = .ok (t :: ts) ρ := rfl
def tupk : Option (Bool × List D) → List T → ER T
  | some (b, ds), ρ => .ok (.imm b (.tup ds)) ρ
  | none, _ => .bad
def lstk : Option (Bool × List D) → List T → ER T
  | some (false, ds), ρ => .ok (.lstI ds) ρ
  | _, _ => .bad
theorem v_Tup : dTup dr ρ = bnd (dr ρ) fTup := rfl
theorem v_fTup : fTup ts ρ = if ts.length ≤ 1000 then tupk (frzs ts) ρ else .bad := by
  unfold fTup tupk
  split
  · cases frzs ts <;> rfl
  · rfl
theorem v_tupk : tupk (some (b, ds)) ρ = .ok (.imm b (.tup ds)) ρ := rfl
theorem v_Lst : dLst dr ρ = bnd (dr ρ) fLst := rfl
theorem v_fLst : fLst ts ρ = if ts.length ≤ 1000 then lstk (frzs ts) ρ else .bad := by
  unfold fLst lstk
  split
  · split <;> simp_all
  · rfl
theorem v_lstk : lstk (some (false, ds)) ρ = .ok (.lstI ds) ρ := rfl
def frzk (b : Bool) (d : D) : Option (Bool × List D) → Option (Bool × List D)
  | some (c, ds) => some (b || c, d :: ds)
  | none => none
theorem v_frzs_nil : frzs [] = some (false, []) := rfl
theorem v_frzs : frzs (.imm b d :: ts) = frzk b d (frzs ts) := by
  simp only [frzs, T.frz, frzk]
  cases frzs ts <;> simp
theorem v_frzs_dicI {ks : List Key} : frzs (.dicI ks ds :: ts) = frzk false (.dic ks ds) (frzs ts) := by
  simp only [frzs, T.frz, frzk]
  cases frzs ts <;> simp
theorem v_frzs_lstI : frzs (.lstI ds :: ts) = frzk false (.lst ds) (frzs ts) := by
  simp only [frzs, T.frz, frzk]
  cases frzs ts <;> simp
theorem v_frzk : frzk b d (some (b1, ds)) = some (b || b1, d :: ds) := rfl
theorem v_frz : T.frz (.imm b d) = some (b, d) := rfl
theorem v_frz_lstI : T.frz (.lstI ds) = some (false, .lst ds) := rfl
theorem v_Bi {f : List T → List T → ER T} : dBi f dr ρ = bnd (dr ρ) f := rfl
def callk (Fn : FnT) (ds : List D) : List T → List T → ER T := fun ts ρ => afterCall ρ (Fn (ts ++ ds.map (T.imm false)))
theorem v_Call {Fn : FnT} : dCall Fn ds dr ρ = bnd (dr ρ) (callk Fn ds) := rfl
theorem v_callk {Fn : FnT} : callk Fn ds ts ρ = afterCall ρ (Fn (ts ++ ds.map (T.imm false))) := rfl
theorem v_after : afterCall ρ (.ok t) = .ok t ρ := rfl
theorem v_after_exc : afterCall ρ (.exc x) = .exc x ρ := rfl
theorem v_after_ite {p : Prop} [Decidable p] {r s : FR} : afterCall ρ (if p then r else s) = if p then afterCall ρ r else afterCall ρ s := by split <;> rfl
/-! statements -/
section
variable {s1 s2 : DS} {q r : SR} {dt dt2 : DT} {g : T → List T → SR} {p : Prop} [Decidable p]
def seqk (r : SR) (b : DS) : SR := match r with
  | .next ρ => b ρ
  | r => r
theorem v_Seq : dSeq s1 s2 ρ = seqk (s1 ρ) s2 := by
  unfold dSeq seqk
  cases s1 ρ <;> rfl
theorem v_seqk : seqk (.next ρ) s2 = s2 ρ := rfl
theorem v_seqk_ret : seqk (.ret t ρ) s2 = .ret t ρ := rfl
theorem v_seqk_exc : seqk (.exc x ρ) s2 = .exc x ρ := rfl
theorem v_seqk_brk : seqk (.brk ρ) s2 = .brk ρ := rfl
theorem v_seqk_cont : seqk (.cont ρ) s2 = .cont ρ := rfl
theorem v_seqk_ite : seqk (if p then q else r) s2 = if p then seqk q s2 else seqk r s2 := by split <;> rfl
def exk (r : ER T) (g : T → List T → SR) : SR := match r with
  | .ok t ρ => g t ρ
  | .exc e ρ => .exc e ρ
  | .bad => .bad
theorem v_exk : exk (.ok t ρ) g = g t ρ := rfl
theorem v_exk_exc : exk (.exc x ρ) g = .exc x ρ := rfl
theorem v_exk_ite {r s : ER T} : exk (if p then r else s) g = if p then exk r g else exk s g := by split <;> rfl
theorem v_Raise : dRaise n ρ = .exc ⟨n, [], []⟩ ρ := rfl
noncomputable def tryk (i : Nat) (r : Nat → Option Bool) (ds : Nat → Nat → Ex → DS) (q : SR) : SR := dTry i r (fun _ => q) ds []
theorem v_Try {r : Nat → Option Bool} {su : Nat → Nat → Ex → DS} : dTry n r s1 su ρ = tryk n r su (s1 ρ) := rfl
theorem v_tryk {r : Nat → Option Bool} {su : Nat → Nat → Ex → DS} : tryk n r su (.next ρ) = .next ρ := rfl
theorem v_exD {a dd m : Nat} {ns : List Str} {vs : List D} : exD a dd ⟨m, ns, vs⟩ = .exn a dd ns vs := rfl
def isek (a dd : Nat) (e : Ex) (r : Option Bool) (ρ : List T) : Option T → ER T
  | some (.imm b (.exn a' dd' ns vs)) => if b = false ∧ a' = a ∧ dd' = dd ∧ ns = e.ns then (match r with
    | some b => .ok (.imm false (.bl b)) ρ
    | none => .bad) else .bad
  | _ => .bad
theorem v_IsE {a dd : Nat} {e : Ex} {r : Option Bool} : dIsE a dd e n r ρ = isek a dd e r ρ ρ[n]? := rfl
theorem v_isek {a dd m : Nat} {ns : List Str} {vs us : List D} : isek a dd ⟨m, ns, vs⟩ (some b) ρ (some (.imm false (.exn a dd ns us))) = .ok (.imm false (.bl b)) ρ := if_pos ⟨rfl, rfl, rfl, rfl⟩
theorem v_anyO_nil : anyO [] = some false := rfl
theorem v_anyO_t {r : List (Option Bool)} : anyO (some true :: r) = some true := rfl
theorem v_anyO_f {r : List (Option Bool)} : anyO (some false :: r) = anyO r := rfl
def isT2 (n j k : Nat) (r : Option Bool) : Option Bool := if n = k then some (j == k || j == 0 || j == 100) else r
theorem v_isT_nil {j k : Nat} : isT [] j k = none := by unfold isT; rw [if_neg (by simp)]
theorem v_isT {ks : List Nat} {j k : Nat} : isT (n :: ks) j k = isT2 n j k (isT ks j k) := by
  unfold isT isT2
  by_cases h : n = k
  · subst h; simp
  · rw [if_neg h]
    by_cases h2 : k ∈ ks
    · rw [if_pos h2, if_pos (by simp [h2])]
    · rw [if_neg h2, if_neg (by simp [h2]; exact fun z => h z.symm)]
theorem v_isT2 {j : Nat} {r : Option Bool} : isT2 n j n r = some (j == n || j == 0 || j == 100) := if_pos rfl
def xfk (a dd : Nat) (e : Ex) (f : Str) (ok : Nat → Bool) (ρ : List T) : Option T → ER T
  | some (.imm b (.exn a' dd' ns vs)) => if b = false ∧ a' = a ∧ dd' = dd ∧ ns = e.ns ∧ e.ns ≠ [] ∧ ok e.c = true then (match lookF f ns vs with
    | some d => .ok (.imm false d) ρ
    | none => .bad) else .bad
  | _ => .bad
theorem v_Xf {a dd : Nat} {e : Ex} {f : Str} {ok : Nat → Bool} : dXf a dd e n f ok ρ = xfk a dd e f ok ρ ρ[n]? := rfl
theorem v_Pass : dPass ρ = .next ρ := rfl
theorem v_Break : dBreak ρ = .brk ρ := rfl
theorem v_Cont : dCont ρ = .cont ρ := rfl
def setk (i : Nat) : T → List T → SR := fun t ρ => .next (ρ.set i t)
theorem v_Set : dSet n de ρ = exk (de ρ) (setk n) := rfl
theorem v_setk : setk n t ρ = .next (ρ.set n t) := rfl
def retk : T → List T → SR := .ret
theorem v_Ret : dRet de ρ = exk (de ρ) retk := rfl
theorem v_retk : retk t ρ = .ret t ρ := rfl
theorem v_RetN : dRetN ρ = .ret (.imm false .non) ρ := rfl
def dropk : T → List T → SR := fun _ ρ => .next ρ
theorem v_Drop : dDrop de ρ = exk (de ρ) dropk := rfl
theorem v_dropk : dropk t ρ = .next ρ := rfl
def asgk2 : Option (List T) → SR
  | some ρ => .next ρ
  | none => .bad
def asgk (dg : DG) : T → List T → SR := fun t ρ => asgk2 (dg t ρ)
theorem v_Asg {dg : DG} : dAsg dg de ρ = exk (de ρ) (asgk dg) := by
  unfold dAsg dEx exk asgk asgk2
  cases de ρ with
  | ok t ρ' => cases dg t ρ' <;> rfl
  | exc e ρ => rfl
  | bad => rfl
theorem v_asgk {dg : DG} : asgk dg t ρ = asgk2 (dg t ρ) := rfl
theorem v_asgk2 : asgk2 (some ρ) = .next ρ := rfl
theorem v_gName : dgName n t ρ = some (ρ.set n t) := rfl
theorem v_gTup {g : DGs} : dgTup g (.imm b (.tup ds)) ρ = g b ds ρ := rfl
theorem v_gNil : dgNil b [] ρ = some ρ := rfl
def gck (r : DGs) (b : Bool) (ds : List D) : Option (List T) → Option (List T)
  | some ρ => r b ds ρ
  | none => none
theorem v_gCons {g : DG} {r : DGs} : dgCons g r b (d :: ds) ρ = gck r b ds (g (.imm b d) ρ) := by
  unfold dgCons gck
  rfl
theorem v_gck {r : DGs} : gck r b ds (some ρ) = r b ds ρ := rfl
def iteS (x : Bool) (a b : DS) : DS := fun ρ => if x = true then a ρ else b ρ
def ifk (r : ER Bool) (a b : DS) : SR := match r with
  | .ok x ρ => iteS x a b ρ
  | .exc e ρ => .exc e ρ
  | .bad => .bad
theorem v_If : dIf dt s1 s2 ρ = ifk (dt ρ) s1 s2 := by
  unfold dIf ifk iteS
  cases dt ρ <;> rfl
theorem v_ifk : ifk (.ok b ρ) s1 s2 = iteS b s1 s2 ρ := rfl
theorem v_ifk_exc : ifk (.exc x ρ) s1 s2 = .exc x ρ := rfl
theorem v_ifk_ite {r s : ER Bool} : ifk (if p then r else s) s1 s2 = if p then ifk r s1 s2 else ifk s s1 s2 := by split <;> rfl
theorem v_iteS_t : iteS true s1 s2 ρ = s1 ρ := rfl
theorem v_iteS_f : iteS false s1 s2 ρ = s2 ρ := rfl
theorem v_iteS_d : iteS (decide p) s1 s2 ρ = if p then s1 ρ else s2 ρ := by
  unfold iteS
  by_cases h : p <;> simp [h]
theorem v_iteS_n : iteS (!b) s1 s2 ρ = iteS b s2 s1 ρ := by
  unfold iteS
  cases b <;> rfl
theorem v_tVal : dtVal de ρ = bnd (de ρ) asBool := rfl
theorem v_asBool : asBool (.imm b (.bl b1)) ρ = .ok b1 ρ := rfl
def tandk (b : DT) : Bool → List T → ER Bool := fun x ρ => if x then b ρ else .ok false ρ
def tork (b : DT) : Bool → List T → ER Bool := fun x ρ => if x then .ok true ρ else b ρ
def tnotk : Bool → List T → ER Bool := fun x ρ => .ok (!x) ρ
theorem v_tAnd : dtAnd dt dt2 ρ = bnd (dt ρ) (tandk dt2) := rfl
theorem v_tandk_t : tandk dt true ρ = dt ρ := rfl
theorem v_tandk_f : tandk dt false ρ = .ok false ρ := rfl
theorem v_tandk_d : tandk dt (decide p) ρ = if p then dt ρ else .ok false ρ := by
  unfold tandk; by_cases h : p <;> simp [h]
theorem v_tOr : dtOr dt dt2 ρ = bnd (dt ρ) (tork dt2) := rfl
theorem v_tork_t : tork dt true ρ = .ok true ρ := rfl
theorem v_tork_f : tork dt false ρ = dt ρ := rfl
theorem v_tork_d : tork dt (decide p) ρ = if p then .ok true ρ else dt ρ := by
  unfold tork; by_cases h : p <;> simp [h]
theorem v_tNot : dtNot dt ρ = bnd (dt ρ) tnotk := rfl
theorem v_tnotk : tnotk b ρ = .ok (!b) ρ := rfl
theorem v_tYes : dtYes ρ = .ok true ρ := rfl
def andk (db : DE) : T → List T → ER T := fun x ρ => match x with
  | .imm _ (.bl true) => db ρ
  | .imm _ (.bl false) => .ok (.imm false (.bl false)) ρ
  | _ => .bad
def ork (db : DE) : T → List T → ER T := fun x ρ => match x with
  | .imm _ (.bl false) => db ρ
  | .imm _ (.bl true) => .ok (.imm false (.bl true)) ρ
  | _ => .bad
def notk : T → List T → ER T := fun x ρ => match x with
  | .imm _ (.bl b) => .ok (.imm false (.bl (!b))) ρ
  | _ => .bad
theorem v_And : dAnd da db ρ = bnd (da ρ) (andk db) := rfl
theorem v_andk_t : andk db (.imm b (.bl true)) ρ = db ρ := rfl
theorem v_andk_f : andk db (.imm b (.bl false)) ρ = .ok (.imm false (.bl false)) ρ := rfl
theorem v_andk_d : andk db (.imm b (.bl (decide p))) ρ = if p then db ρ else .ok (.imm false (.bl false)) ρ := by
  by_cases h : p <;> simp [h, andk]
theorem v_Or : dOr da db ρ = bnd (da ρ) (ork db) := rfl
theorem v_ork_f : ork db (.imm b (.bl false)) ρ = db ρ := rfl
theorem v_ork_t : ork db (.imm b (.bl true)) ρ = .ok (.imm false (.bl true)) ρ := rfl
theorem v_ork_d : ork db (.imm b (.bl (decide p))) ρ = if p then .ok (.imm false (.bl true)) ρ else db ρ := by
  by_cases h : p <;> simp [h, ork]
theorem v_Not : dNot da ρ = bnd (da ρ) notk := rfl
theorem v_notk : notk (.imm b (.bl b1)) ρ = .ok (.imm false (.bl (!b1))) ρ := rfl
def iteE (x : Bool) (a b : DE) : DE := fun ρ => if x = true then a ρ else b ρ
def ifek (r : ER Bool) (a b : DE) : ER T := match r with
  | .ok x ρ => iteE x a b ρ
  | .exc e ρ => .exc e ρ
  | .bad => .bad
theorem v_IfE : dIfE dt da db ρ = ifek (dt ρ) da db := by
  unfold dIfE ifek iteE
  cases dt ρ <;> rfl
theorem v_ifek : ifek (.ok b ρ) da db = iteE b da db ρ := rfl
theorem v_ifek_ite {r s : ER Bool} : ifek (if p then r else s) da db = if p then ifek r da db else ifek s da db := by split <;> rfl
theorem v_iteE_t : iteE true da db ρ = da ρ := rfl
theorem v_iteE_f : iteE false da db ρ = db ρ := rfl
theorem v_iteE_d : iteE (decide p) da db ρ = if p then da ρ else db ρ := by
  unfold iteE
  by_cases h : p <;> simp [h]
theorem v_iteE_n : iteE (!b) da db ρ = iteE b db da ρ := by
  unfold iteE
  cases b <;> rfl
theorem v_fin_next : fin (.next ρ) = .ok (.imm false .non) := rfl
theorem v_fin_ret : fin (.ret t ρ) = .ok t := rfl
theorem v_fin_exc : fin (.exc x ρ) = .exc x := rfl
theorem v_fin_ite : fin (if p then q else r) = if p then fin q else fin r := by split <;> rfl
theorem v_mkFn {N m : Nat} {body : DS} : mkFn N m body ts = if ts.length = m then fin (body (ts ++ List.replicate (N - m) .dead)) else .bad := rfl
theorem v_rep0 : List.replicate 0 T.dead = [] := rfl
theorem v_repS {m : Nat} : List.replicate (m + 1) T.dead = .dead :: List.replicate m .dead := rfl
end
end
end Gb

namespace Gb
open PySem PySem.Spec L2
section
variable {α β : Type} {a : α} {ρ : List T} {k : α → List T → ER β} {x : Ex} {da db dc de : DE} {dr : DA} {c d e : D} {b b1 b2 b3 : Bool} {i j : Int} {n m : Nat} {ds es : List D} {t u : T} {ts : List T} {p : Prop} [Decidable p]
/-! built-in functions -/
def lenk (r : Option Nat) (ρ : List T) : ER T := match r with
  | some n => .ok (.imm false (.int n)) ρ
  | none => .bad
theorem v_fLen : fLen [.imm b d] ρ = lenk d.len? ρ := rfl
theorem v_lenk : lenk (some n) ρ = .ok (.imm false (.int n)) ρ := rfl
theorem v_len_lst : D.len? (.lst ds) = some ds.length := rfl
theorem v_len_tup : D.len? (.tup ds) = some ds.length := rfl
theorem v_len_scr {ns : List Int} : D.len? (.scr ns) = some ns.length := rfl
theorem v_len_str {s : Str} (h : s.length ≤ 16777216) : D.len? (.str s) = some s.length := if_pos (show s.length ≤ sizeLine from h)
def lenvk (ρ : List T) : Option T → ER T
  | some (.lstI ds) => .ok (.imm false (.int ds.length)) ρ
  | some (.imm _ d) => lenk d.len? ρ
  | some (.lst ts) => .ok (.imm false (.int ts.length)) ρ
  | _ => .bad
theorem v_lenV : dLenV n ρ = lenvk ρ ρ[n]? := by
  unfold dLenV lenvk lenk
  cases ρ[n]? with
  | none => rfl
  | some t => cases t <;> rfl
theorem v_lenvk : lenvk ρ (some (.imm b d)) = lenk d.len? ρ := rfl
theorem v_lenvk_lstI : lenvk ρ (some (.lstI ds)) = .ok (.imm false (.int ds.length)) ρ := rfl
theorem v_lenvk_lst : lenvk ρ (some (.lst ts)) = .ok (.imm false (.int ts.length)) ρ := rfl
theorem v_fMinP2 : fMinP [.imm b1 (.int i), .imm b2 (.int j)] ρ = .ok (.imm false (.int (min i j))) ρ := rfl
theorem v_fMinP_1 {i2 : Int} : fMinP [.imm b (.lst [.tup [.int i, .int i2]])] ρ = .ok (.imm b (.tup [.int i, .int i2])) ρ := rfl
theorem v_fMinP_2 {i2 j2 : Int} : fMinP [.imm b (.lst [.tup [.int i, .int i2], .tup [.int j, .int j2]])] ρ = .ok (.imm b (.tup [.int (if ltP (j, j2) (i, i2) then (j, j2) else (i, i2)).1, .int (if ltP (j, j2) (i, i2) then (j, j2) else (i, i2)).2])) ρ := rfl
def reprk (o : Option Str) (ρ : List T) : ER T := match o with
  | some s => .ok (.imm false (.str s)) ρ
  | none => .bad
theorem v_fRepr : fRepr [.imm b d] ρ = reprk d.shw ρ := by
  unfold fRepr reprk
  rfl
theorem v_reprk {s : Str} : reprk (some s) ρ = .ok (.imm false (.str s)) ρ := rfl
theorem v_fAbs : fAbs [.imm b (.int i)] ρ = .ok (.imm false (.int (if i < 0 then -i else i))) ρ := rfl
theorem v_fMax2 : fMax [.imm b1 (.int i), .imm b2 (.int j)] ρ = .ok (.imm false (.int (max i j))) ρ := rfl
theorem v_fMin2 : fMin [.imm b1 (.int i), .imm b2 (.int j)] ρ = .ok (.imm false (.int (min i j))) ρ := rfl
theorem v_fInt : fInt [.imm b (.int i)] ρ = .ok (.imm false (.int i)) ρ := rfl
theorem v_fInt_bl : fInt [.imm b (.bl b1)] ρ = .ok (.imm false (.int (if b1 then 1 else 0))) ρ := rfl
theorem v_fTuple_l : fTuple [.imm b (.lst ds)] ρ = .ok (.imm (bfl b ds) (.tup ds)) ρ := rfl
theorem v_bfl_f : bfl false ds = false := rfl
theorem v_bfl_t : bfl true ds = !ds.all D.flat := rfl
theorem v_fTuple_t : fTuple [.imm b (.tup ds)] ρ = .ok (.imm b (.tup ds)) ρ := rfl
theorem v_fList_l : fList [.imm false (.lst ds)] ρ = .ok (.lstI ds) ρ := rfl
theorem v_fList_t : fList [.imm false (.tup ds)] ρ = .ok (.lstI ds) ρ := rfl
theorem v_fList_b (h : ds.all D.flat = true) : fList [.imm true (.tup ds)] ρ = .ok (.lstI ds) ρ := if_pos h
theorem v_fList_s {ns : List Int} : fList [.imm b (.scr ns)] ρ = .ok (.lstI (ns.map D.int)) ρ := by cases b <;> rfl
def blk' (g : List Bool → Bool) (r : Option (List Bool)) (ρ : List T) : ER T := match r with
  | some bs => .ok (.imm false (.bl (g bs))) ρ
  | none => .bad
theorem v_fBools {g : List Bool → Bool} : fBools g [.imm b (.lst ds)] ρ = blk' g (D.bools ds) ρ := rfl
theorem v_blk {g : List Bool → Bool} {bs : List Bool} : blk' g (some bs) ρ = .ok (.imm false (.bl (g bs))) ρ := rfl
def sumk (r : Option (List Int)) (ρ : List T) : ER T := match r with
  | some ns => .ok (.imm false (.int ns.sum)) ρ
  | none => .bad
theorem v_fSum : fSum [.imm b d] ρ = sumk d.intList ρ := rfl
theorem v_sumk {ns : List Int} : sumk (some ns) ρ = .ok (.imm false (.int ns.sum)) ρ := rfl
theorem v_intList : D.intList (.lst ds) = D.ints ds := rfl
def consO {α : Type} (a : α) (r : Option (List α)) : Option (List α) := match r with
  | some xs => some (a :: xs)
  | none => none
theorem v_ints_nil : D.ints [] = some [] := rfl
theorem v_ints : D.ints (.int i :: ds) = consO i (D.ints ds) := by
  rw [D.ints]; unfold consO; cases D.ints ds <;> rfl
theorem v_bools_nil : D.bools [] = some [] := rfl
theorem v_bools : D.bools (.bl b :: ds) = consO b (D.bools ds) := by
  rw [D.bools]; unfold consO; cases D.bools ds <;> rfl
theorem v_consO {xs : List α} : consO a (some xs) = some (a :: xs) := rfl
def isik (t : Option String) (n : String) (ρ : List T) : ER T := match t with
  | some t => (match isB t n with
    | some b => .ok (.imm false (.bl b)) ρ
    | none => .bad)
  | none => .bad
def isik2 (r : Option Bool) (ρ : List T) : ER T := match r with
  | some b => .ok (.imm false (.bl b)) ρ
  | none => .bad
theorem v_isi {s : String} : fIsi [.imm b d, .imm b1 (.ty s)] ρ = isik d.kind s ρ := rfl
theorem v_isik {s z : String} : isik (some s) z ρ = isik2 (isB s z) ρ := rfl
theorem v_isik2 : isik2 (some b) ρ = .ok (.imm false (.bl b)) ρ := rfl
def isitk (t : Option String) (cs : List D) (ρ : List T) : ER T := match t with
  | some t => isik2 (isIn t cs) ρ
  | none => .bad
theorem v_isit : fIsi [.imm b d, .imm b1 (.tup ds)] ρ = isitk d.kind ds ρ := rfl
theorem v_isitk {s : String} : isitk (some s) ds ρ = isik2 (isIn s ds) ρ := rfl
def tyB (d : D) : Bool := match d with | .ty _ => true | _ => false
def isInk (r : Option Bool) (t : String) (cs : List D) : Option Bool := match r with
  | some true => if cs.all tyB then some true else none
  | some false => isIn t cs
  | none => none
theorem v_isIn_nil {s : String} : isIn s [] = some false := rfl
theorem v_isIn {s z : String} : isIn s (.ty z :: ds) = isInk (isB s z) s ds := rfl
theorem v_isInk_t {s : String} : isInk (some true) s ds = if ds.all tyB then some true else none := rfl
theorem v_isInk_f {s : String} : isInk (some false) s ds = isIn s ds := rfl
theorem v_tyB {s : String} : tyB (.ty s) = true := rfl
theorem isB_NoneType_int : isB "NoneType" "int" = some false := rfl
theorem isB_NoneType_bool : isB "NoneType" "bool" = some false := rfl
theorem isB_NoneType_str : isB "NoneType" "str" = some false := rfl
theorem isB_NoneType_list : isB "NoneType" "list" = some false := rfl
theorem isB_NoneType_tuple : isB "NoneType" "tuple" = some false := rfl
theorem isB_NoneType_dict : isB "NoneType" "dict" = some false := rfl
theorem isB_bool_int : isB "bool" "int" = some true := rfl
theorem isB_bool_bool : isB "bool" "bool" = some true := rfl
theorem isB_bool_str : isB "bool" "str" = some false := rfl
theorem isB_bool_list : isB "bool" "list" = some false := rfl
theorem isB_bool_tuple : isB "bool" "tuple" = some false := rfl
theorem isB_bool_dict : isB "bool" "dict" = some false := rfl
theorem isB_int_int : isB "int" "int" = some true := rfl
theorem isB_int_bool : isB "int" "bool" = some false := rfl
theorem isB_int_str : isB "int" "str" = some false := rfl
theorem isB_int_list : isB "int" "list" = some false := rfl
theorem isB_int_tuple : isB "int" "tuple" = some false := rfl
theorem isB_int_dict : isB "int" "dict" = some false := rfl
theorem isB_str_int : isB "str" "int" = some false := rfl
theorem isB_str_bool : isB "str" "bool" = some false := rfl
theorem isB_str_str : isB "str" "str" = some true := rfl
theorem isB_str_list : isB "str" "list" = some false := rfl
theorem isB_str_tuple : isB "str" "tuple" = some false := rfl
theorem isB_str_dict : isB "str" "dict" = some false := rfl
theorem isB_list_int : isB "list" "int" = some false := rfl
theorem isB_list_bool : isB "list" "bool" = some false := rfl
theorem isB_list_str : isB "list" "str" = some false := rfl
theorem isB_list_list : isB "list" "list" = some true := rfl
theorem isB_list_tuple : isB "list" "tuple" = some false := rfl
theorem isB_list_dict : isB "list" "dict" = some false := rfl
theorem isB_tuple_int : isB "tuple" "int" = some false := rfl
theorem isB_tuple_bool : isB "tuple" "bool" = some false := rfl
theorem isB_tuple_str : isB "tuple" "str" = some false := rfl
theorem isB_tuple_list : isB "tuple" "list" = some false := rfl
theorem isB_tuple_tuple : isB "tuple" "tuple" = some true := rfl
theorem isB_tuple_dict : isB "tuple" "dict" = some false := rfl
theorem isB_dict_int : isB "dict" "int" = some false := rfl
theorem isB_dict_bool : isB "dict" "bool" = some false := rfl
theorem isB_dict_str : isB "dict" "str" = some false := rfl
theorem isB_dict_list : isB "dict" "list" = some false := rfl
theorem isB_dict_tuple : isB "dict" "tuple" = some false := rfl
theorem isB_dict_dict : isB "dict" "dict" = some true := rfl
theorem kind_NoneType  : D.kind .non = some "NoneType" := rfl
theorem kind_bool {b : Bool} : D.kind (.bl b) = some "bool" := rfl
theorem kind_int {i : Int} : D.kind (.int i) = some "int" := rfl
theorem kind_str {s : Str} : D.kind (.str s) = some "str" := rfl
theorem kind_list {ds : List D} : D.kind (.lst ds) = some "list" := rfl
theorem kind_tuple {ds : List D} : D.kind (.tup ds) = some "tuple" := rfl
theorem kind_dict {ds : List D} {ks : List Key} : D.kind (.dic ks ds) = some "dict" := rfl
/-! plain data -/
theorem p_int : D.pl (.int i) n = true := rfl
theorem p_non : D.pl .non n = true := rfl
theorem p_bl : D.pl (.bl b) n = true := rfl
theorem p_lst : D.pl (.lst ds) (n + 1) = (decide (ds.length < 16777216) && D.pls ds n) := rfl
theorem p_tup : D.pl (.tup ds) (n + 1) = (decide (ds.length < 16777216) && D.pls ds n) := rfl
theorem p_nil : D.pls [] n = true := rfl
theorem p_cons : D.pls (d :: ds) n = (d.pl n && D.pls ds n) := rfl
/-! what numbers decide -/
theorem v_ite_lt_t {γ : Type} {p q : γ} [Decidable (i < j)] (h : i < j) : (if i < j then p else q) = p := if_pos h
theorem v_ite_lt_f {γ : Type} {p q : γ} [Decidable (i < j)] (h : j ≤ i) : (if i < j then p else q) = q := if_neg (by omega)
theorem v_ite_le_t {γ : Type} {p q : γ} [Decidable (i ≤ j)] (h : i ≤ j) : (if i ≤ j then p else q) = p := if_pos h
theorem v_ite_le_f {γ : Type} {p q : γ} [Decidable (i ≤ j)] (h : j < i) : (if i ≤ j then p else q) = q := if_neg (by omega)
theorem v_ite_eq_t {γ : Type} {p q : γ} [Decidable (i = j)] (h : i = j) : (if i = j then p else q) = p := if_pos h
theorem v_ite_eq_f1 {γ : Type} {p q : γ} [Decidable (i = j)] (h : i < j) : (if i = j then p else q) = q := if_neg (by omega)
theorem v_ite_eq_f2 {γ : Type} {p q : γ} [Decidable (i = j)] (h : j < i) : (if i = j then p else q) = q := if_neg (by omega)
/-! chains -/
def chk3 (f' : T → T → DE) (dc : DE) (b : Bool) (d : D) : T → List T → ER T := fun z ρ3 => match z with
  | .imm _ (.bl true) => bnd (dc ρ3) (f' (.imm b d))
  | .imm _ (.bl false) => .ok (.imm false (.bl false)) ρ3
  | _ => .bad
def chk2 (f f' : T → T → DE) (dc : DE) (x : T) : T → List T → ER T := fun y ρ2 => match y with
  | .imm b d => bnd (f x (.imm b d) ρ2) (chk3 f' dc b d)
  | _ => .bad
def chk1 (f f' : T → T → DE) (db dc : DE) : T → List T → ER T := fun x ρ1 => bnd (db ρ1) (chk2 f f' dc x)
theorem v_Chain {f f' : T → T → DE} : dChain f f' da db dc ρ = bnd (da ρ) (chk1 f f' db dc) := rfl
theorem v_chk1 {f f' : T → T → DE} : chk1 f f' db dc t ρ = bnd (db ρ) (chk2 f f' dc t) := rfl
theorem v_chk2 {f f' : T → T → DE} : chk2 f f' dc t (.imm b d) ρ = bnd (f t (.imm b d) ρ) (chk3 f' dc b d) := rfl
theorem v_chk3_t {f' : T → T → DE} : chk3 f' dc b d (.imm b1 (.bl true)) ρ = bnd (dc ρ) (f' (.imm b d)) := rfl
theorem v_chk3_f {f' : T → T → DE} : chk3 f' dc b d (.imm b1 (.bl false)) ρ = .ok (.imm false (.bl false)) ρ := rfl
theorem v_chk3_d {f' : T → T → DE} : chk3 f' dc b d (.imm b1 (.bl (decide p))) ρ = if p then bnd (dc ρ) (f' (.imm b d)) else .ok (.imm false (.bl false)) ρ := by
  by_cases h : p <;> simp [h, chk3]
/-! items, slices -/
def okT (r : Option T) (ρ : List T) : ER T := match r with
  | some t => .ok t ρ
  | none => .bad
theorem v_okT : okT (some t) ρ = .ok t ρ := rfl
theorem v_fIx : fIx (.imm b d) (.imm b1 (.int i)) ρ = okT (gIx b d i) ρ := rfl
theorem v_gIx_lst : gIx b (.lst ds) i = (L2.atI ds i).map (itm b) := rfl
theorem v_gIx_tup : gIx b (.tup ds) i = (L2.atI ds i).map (itm b) := rfl
theorem v_gIx_scr {ns : List Int} : gIx b (.scr ns) i = (L2.atI ns i).map fun n => .imm false (.int n) := rfl
theorem v_itm_f : itm false d = .imm false d := rfl
theorem v_itm_int : itm b (.int i) = .imm false (.int i) := by unfold itm; cases b <;> rfl
theorem v_itm_non : itm b .non = .imm false .non := by unfold itm; cases b <;> rfl
theorem v_itm_lst : itm b (.lst ds) = .imm b (.lst ds) := by unfold itm; cases b <;> rfl
theorem v_itm_tup : itm b (.tup ds) = .imm b (.tup ds) := by unfold itm; cases b <;> rfl
theorem v_itm_str {s : Str} : itm b (.str s) = .imm false (.str s) := by unfold itm; cases b <;> rfl
def ixk3 : Option T → T → List T → ER T := fun s y ρ => match s, y with
  | some (.lstI ds), .imm _ (.int k) => okT ((L2.atI ds k).map (T.imm false)) ρ
  | _, _ => .bad
def ixk4 : Option T → T → List T → ER T := fun s y ρ => match s, y with
  | some (.imm b d), .imm _ (.int k) => okT (gIx b d k) ρ
  | _, _ => .bad
def ixk2 (n : Nat) : T → List T → ER T := fun y ρ => ixk3 ρ[n]? y ρ
def ixk2' (n : Nat) : T → List T → ER T := fun y ρ => ixk4 ρ[n]? y ρ
def ixk (n : Nat) (db : DE) (ρ : List T) : Option T → ER T
  | some (.lstI _) => bnd (db ρ) (ixk2 n)
  | some (.imm _ _) => bnd (db ρ) (ixk2' n)
  | _ => .bad
theorem v_ixV : dIxV n db ρ = ixk n db ρ ρ[n]? := by
  unfold dIxV ixk
  have h1 : (fun (y : T) (ρ1 : List T) => (match ρ1[n]?, y with
    | some (.lstI ds), .imm _ (.int k) => match L2.atI ds k with
      | some d => ER.ok (.imm false d) ρ1
      | none => .bad
    | _, _ => .bad)) = ixk2 n := by
    funext y ρ1
    unfold ixk2 ixk3
    cases e : ρ1[n]? with
    | none => rfl
    | some t =>
      cases t with
      | lstI ds =>
        cases y with
        | imm c d =>
          cases d with
          | int k =>
            simp only [okT]
            cases L2.atI ds k <;> rfl
          | _ => rfl
        | _ => rfl
      | _ => rfl
  have h2 : (fun (y : T) (ρ1 : List T) => (match ρ1[n]?, y with
    | some (.imm b d), .imm _ (.int k) => match gIx b d k with
      | some t => ER.ok t ρ1
      | none => .bad
    | _, _ => .bad)) = ixk2' n := by
    funext y ρ1
    unfold ixk2' ixk4
    rfl
  cases ρ[n]? with
  | none => rfl
  | some t =>
    cases t with
    | lstI ds => exact congrArg (ER.bind (db ρ)) h1
    | imm b d => exact congrArg (ER.bind (db ρ)) h2
    | _ => rfl
theorem v_ixk_lstI : ixk n db ρ (some (.lstI ds)) = bnd (db ρ) (ixk2 n) := rfl
theorem v_ixk_imm : ixk n db ρ (some (.imm b d)) = bnd (db ρ) (ixk2' n) := rfl
theorem v_ixk2 : ixk2 n t ρ = ixk3 ρ[n]? t ρ := rfl
theorem v_ixk2' : ixk2' n t ρ = ixk4 ρ[n]? t ρ := rfl
theorem v_ixk3 : ixk3 (some (.lstI ds)) (.imm b (.int i)) ρ = okT ((L2.atI ds i).map (T.imm false)) ρ := rfl
theorem v_ixk4 : ixk4 (some (.imm b1 d)) (.imm b (.int i)) ρ = okT (gIx b1 d i) ρ := rfl
theorem v_at0 {xs : List α} : L2.atI (a :: xs) 0 = some a := by
  have h := atI_nat (xs := a :: xs) (j := 0) (v := a) rfl
  simpa using h
theorem v_at1 {a1 : α} {xs : List α} : L2.atI (a :: a1 :: xs) 1 = some a1 := by
  have h := atI_nat (xs := a :: a1 :: xs) (j := 1) (v := a1) rfl
  simpa using h
theorem v_at2 {a1 a2 : α} {xs : List α} : L2.atI (a :: a1 :: a2 :: xs) 2 = some a2 := by
  have h := atI_nat (xs := a :: a1 :: a2 :: xs) (j := 2) (v := a2) rfl
  simpa using h
theorem v_at3 {a1 a2 a3 : α} {xs : List α} : L2.atI (a :: a1 :: a2 :: a3 :: xs) 3 = some a3 := by
  have h := atI_nat (xs := a :: a1 :: a2 :: a3 :: xs) (j := 3) (v := a3) rfl
  simpa using h
theorem v_at4 {a1 a2 a3 a4 : α} {xs : List α} : L2.atI (a :: a1 :: a2 :: a3 :: a4 :: xs) 4 = some a4 := by
  have h := atI_nat (xs := a :: a1 :: a2 :: a3 :: a4 :: xs) (j := 4) (v := a4) rfl
  simpa using h
theorem v_at5 {a1 a2 a3 a4 a5 : α} {xs : List α} : L2.atI (a :: a1 :: a2 :: a3 :: a4 :: a5 :: xs) 5 = some a5 := by
  have h := atI_nat (xs := a :: a1 :: a2 :: a3 :: a4 :: a5 :: xs) (j := 5) (v := a5) rfl
  simpa using h
theorem v_at6 {a1 a2 a3 a4 a5 a6 : α} {xs : List α} : L2.atI (a :: a1 :: a2 :: a3 :: a4 :: a5 :: a6 :: xs) 6 = some a6 := by
  have h := atI_nat (xs := a :: a1 :: a2 :: a3 :: a4 :: a5 :: a6 :: xs) (j := 6) (v := a6) rfl
  simpa using h
theorem v_at7 {a1 a2 a3 a4 a5 a6 a7 : α} {xs : List α} : L2.atI (a :: a1 :: a2 :: a3 :: a4 :: a5 :: a6 :: a7 :: xs) 7 = some a7 := by
  have h := atI_nat (xs := a :: a1 :: a2 :: a3 :: a4 :: a5 :: a6 :: a7 :: xs) (j := 7) (v := a7) rfl
  simpa using h
theorem v_at8 {a1 a2 a3 a4 a5 a6 a7 a8 : α} {xs : List α} : L2.atI (a :: a1 :: a2 :: a3 :: a4 :: a5 :: a6 :: a7 :: a8 :: xs) 8 = some a8 := by
  have h := atI_nat (xs := a :: a1 :: a2 :: a3 :: a4 :: a5 :: a6 :: a7 :: a8 :: xs) (j := 8) (v := a8) rfl
  simpa using h
theorem v_at9 {a1 a2 a3 a4 a5 a6 a7 a8 a9 : α} {xs : List α} : L2.atI (a :: a1 :: a2 :: a3 :: a4 :: a5 :: a6 :: a7 :: a8 :: a9 :: xs) 9 = some a9 := by
  have h := atI_nat (xs := a :: a1 :: a2 :: a3 :: a4 :: a5 :: a6 :: a7 :: a8 :: a9 :: xs) (j := 9) (v := a9) rfl
  simpa using h
theorem atI_ofNat {xs : List α} {i : Nat} (h : i < xs.length) : L2.atI xs (i : Int) = some xs[i] := by
  rw [atI_nat (List.getElem?_eq_getElem h)]
theorem atI_eq {xs : List α} {i : Int} (h1 : 0 ≤ i) (h2 : i < xs.length) : L2.atI xs i = xs[i.toNat]? := by
  obtain ⟨j, rfl⟩ := Int.eq_ofNat_of_zero_le h1
  rw [atI_ofNat (by omega), Int.toNat_natCast, List.getElem?_eq_getElem (by omega)]
def somek : T → List T → ER (Option Int) := fun x ρ => match x with
  | .imm _ (.int i) => .ok (some i) ρ
  | _ => .bad
theorem v_oNone : doNone ρ = .ok none ρ := rfl
theorem v_oSome : doSome de ρ = bnd (de ρ) somek := rfl
theorem v_somek : somek (.imm b (.int i)) ρ = .ok (some i) ρ := rfl
def slk3 (x : T) (l : Option Int) : Option Int → List T → ER T := fun h ρ => fSl x l h ρ
def slk2 (dh : DO) (x : T) : Option Int → List T → ER T := fun l ρ => bnd (dh ρ) (slk3 x l)
def slk (dl dh : DO) : T → List T → ER T := fun x ρ => bnd (dl ρ) (slk2 dh x)
section
variable {dl dh : DO} {l h : Option Int}
theorem v_Sl : dSl da dl dh ρ = bnd (da ρ) (slk dl dh) := rfl
theorem v_slk : slk dl dh t ρ = bnd (dl ρ) (slk2 dh t) := rfl
theorem v_slk2 : slk2 dh t l ρ = bnd (dh ρ) (slk3 t l) := rfl
theorem v_slk3 : slk3 t l h ρ = fSl t l h ρ := rfl
theorem v_fSl_lst : fSl (.imm false (.lst ds)) l h ρ = .ok (.lstI (cutD ds l h)) ρ := rfl
theorem v_fSl_tup : fSl (.imm b (.tup ds)) l h ρ = .ok (.imm b (.tup (cutD ds l h))) ρ := by cases b <;> rfl
theorem v_fSl_scr {ns : List Int} : fSl (.imm b (.scr ns)) l h ρ = .ok (.lstI ((cutD ns l h).map D.int)) ρ := by cases b <;> rfl
end
theorem v_cut_take {xs : List α} (h : 0 ≤ i) : cutD xs none (some i) = xs.take i.toNat := by
  obtain ⟨k, rfl⟩ := Int.eq_ofNat_of_zero_le h
  unfold cutD
  rw [HT.sIx_nat, HT.sIx_none, Int.toNat_natCast, List.drop_zero, Nat.sub_zero]
  by_cases hl : k ≤ xs.length
  · rw [Nat.min_eq_left hl]
  · rw [Nat.min_eq_right (by omega), List.take_length, List.take_of_length_le (by omega)]
theorem v_cut_drop {xs : List α} (h : 0 ≤ i) : cutD xs (some i) none = xs.drop i.toNat := by
  obtain ⟨k, rfl⟩ := Int.eq_ofNat_of_zero_le h
  unfold cutD
  rw [HT.sIx_nat, HT.sIx_none, Int.toNat_natCast]
  by_cases hl : k ≤ xs.length
  · rw [Nat.min_eq_left hl, List.take_of_length_le (by simp)]
  · rw [Nat.min_eq_right (by omega), List.drop_length, List.drop_of_length_le (by omega)]
    simp
theorem v_cut_mid {xs : List α} (h : 0 ≤ i) (h2 : i ≤ j) (h3 : j ≤ xs.length) : cutD xs (some i) (some j) = (xs.drop i.toNat).take (j - i).toNat := by
  obtain ⟨k, rfl⟩ := Int.eq_ofNat_of_zero_le h
  obtain ⟨m, rfl⟩ := Int.eq_ofNat_of_zero_le (show 0 ≤ j by omega)
  unfold cutD
  rw [HT.sIx_nat, HT.sIx_nat, Int.toNat_natCast, Nat.min_eq_left (by omega), Nat.min_eq_left (by omega)]
  congr 1
  omega
/-! changes of one's own lists -/
def appk3 (n : Nat) (ρ : List T) : Option T → Option (Bool × D) → ER T := fun s r => match s, r with
  | some (.lstI ds), some (false, d) => if ds.length < 16777216 then .ok (.imm false .non) (ρ.set n (.lstI (ds ++ [d]))) else .bad
  | _, _ => .bad
def appk2 (n : Nat) : T → List T → ER T := fun t ρ => appk3 n ρ ρ[n]? t.frz
def appk (n : Nat) (de : DE) (ρ : List T) : Option T → ER T
  | some (.lstI _) => bnd (de ρ) (appk2 n)
  | _ => .bad
theorem v_Append : dAppend n de ρ = appk n de ρ ρ[n]? := by
  unfold dAppend appk
  rfl
theorem v_appk : appk n de ρ (some (.lstI ds)) = bnd (de ρ) (appk2 n) := rfl
theorem v_appk2 : appk2 n t ρ = appk3 n ρ ρ[n]? t.frz := rfl
theorem v_appk3 (h : ds.length < 16777216) : appk3 n ρ (some (.lstI ds)) (some (false, d)) = .ok (.imm false .non) (ρ.set n (.lstI (ds ++ [d]))) := if_pos h
def clrk (n : Nat) (ρ : List T) : Option T → ER T
  | some (.lstI _) => .ok (.imm false .non) (ρ.set n (.lstI []))
  | _ => .bad
theorem v_Clear : dClear n ρ = clrk n ρ ρ[n]? := by
  unfold dClear clrk
  rfl
def rvsk (n : Nat) (ρ : List T) : Option T → ER T
  | some (.lstI ds) => .ok (.imm false .non) (ρ.set n (.lstI ds.reverse))
  | _ => .bad
theorem v_Reverse : dReverse n ρ = rvsk n ρ ρ[n]? := by
  unfold dReverse rvsk
  rfl
theorem v_rvsk : rvsk n ρ (some (.lstI ds)) = .ok (.imm false .non) (ρ.set n (.lstI ds.reverse)) := rfl
theorem v_Lr : dLr da ρ = bnd (da ρ) revk := rfl
theorem v_revk : revk (.imm false (.lst ds)) ρ = .ok (.lstI ds.reverse) ρ := rfl
theorem v_Tr : dTr da ρ = bnd (da ρ) tuprk := rfl
theorem v_tuprk : tuprk (.imm b (.tup ds)) ρ = .ok (.imm b (.tup ds.reverse)) ρ := rfl
theorem v_BitL : dBitL da ρ = bnd (da ρ) bitk := rfl
theorem v_bitk : bitk (.imm b (.int i)) ρ = .ok (.imm false (.int (Builtin.Int.intBits i : Nat))) ρ := rfl
theorem v_clrk : clrk n ρ (some (.lstI ds)) = .ok (.imm false .non) (ρ.set n (.lstI [])) := rfl
def popk (n : Nat) (ρ : List T) : Option T → ER T
  | some (.lstI ds) => (match ds.getLast? with
    | some d => .ok (.imm false d) (ρ.set n (.lstI ds.dropLast))
    | none => .bad)
  | _ => .bad
theorem v_Pop : dPop n ρ = popk n ρ ρ[n]? := by
  unfold dPop popk
  rfl
theorem v_popk : popk n ρ (some (.lstI (ds ++ [d]))) = .ok (.imm false d) (ρ.set n (.lstI ds)) := by
  unfold popk
  simp
def extk3 (n : Nat) (ρ : List T) : Option T → Option (Bool × D) → ER T := fun s r => match s, r with
  | some (.lstI ds), some (false, .lst es) => if ds.length + es.length ≤ 16777216 then .ok (.imm false .non) (ρ.set n (.lstI (ds ++ es))) else .bad
  | _, _ => .bad
def extk2 (n : Nat) : T → List T → ER T := fun t ρ => extk3 n ρ ρ[n]? t.frz
def extk (n : Nat) (de : DE) (ρ : List T) : Option T → ER T
  | some (.lstI _) => bnd (de ρ) (extk2 n)
  | _ => .bad
theorem v_Extend : dExtend n de ρ = extk n de ρ ρ[n]? := by
  unfold dExtend extk
  rfl
theorem v_extk : extk n de ρ (some (.lstI ds)) = bnd (de ρ) (extk2 n) := rfl
theorem v_extk2 : extk2 n t ρ = extk3 n ρ ρ[n]? t.frz := rfl
theorem v_extk3 (h : ds.length + es.length ≤ 16777216) : extk3 n ρ (some (.lstI ds)) (some (false, .lst es)) = .ok (.imm false .non) (ρ.set n (.lstI (ds ++ es))) := if_pos h
/-! loops, comprehensions -/
section
variable {dg : DG} {di : DI} {body : DS} {dt : DT} {own : List Nat}
def fork (dg : DG) (body : DS) (r : ER (Bool × List D)) : SR := match r with
  | .ok p ρ => forL dg body p.1 p.2 ρ
  | .exc e ρ => .exc e ρ
  | .bad => .bad
theorem v_For : dFor dg di body ρ = fork dg body (di ρ) := by
  unfold dFor fork
  cases di ρ <;> rfl
theorem v_fork : fork dg body (.ok (b, ds) ρ) = forL dg body b ds ρ := rfl
def forkk (dg : DG) (body : DS) (b : Bool) (ds : List D) (r : SR) : SR := match r with
  | .next ρ2 => forL dg body b ds ρ2
  | .cont ρ2 => forL dg body b ds ρ2
  | .brk ρ2 => .next ρ2
  | .ret t ρ2 => .ret t ρ2
  | .exc e ρ2 => .exc e ρ2
  | .bad => .bad
def forkg (dg : DG) (body : DS) (b : Bool) (ds : List D) (r : Option (List T)) : SR := match r with
  | none => .bad
  | some ρ1 => forkk dg body b ds (body ρ1)
theorem v_for_nil : forL dg body b [] ρ = .next ρ := rfl
theorem v_forkg : forkg dg body b ds (some ρ) = forkk dg body b ds (body ρ) := rfl
theorem v_forkk : forkk dg body b ds (.next ρ) = forL dg body b ds ρ := rfl
theorem v_forkk_cont : forkk dg body b ds (.cont ρ) = forL dg body b ds ρ := rfl
theorem v_forkk_brk : forkk dg body b ds (.brk ρ) = .next ρ := rfl
theorem v_forkk_ret : forkk dg body b ds (.ret t ρ) = .ret t ρ := rfl
theorem v_forkk_exc : forkk dg body b ds (.exc x ρ) = .exc x ρ := rfl
theorem v_iVal : diVal de ρ = bnd (de ρ) itemsOf := rfl
theorem v_items_lst : itemsOf (.imm b (.lst ds)) ρ = .ok (b, ds) ρ := rfl
theorem v_items_tup : itemsOf (.imm b (.tup ds)) ρ = .ok (b, ds) ρ := rfl
theorem v_items_scr {ns : List Int} : itemsOf (.imm b (.scr ns)) ρ = .ok (b, ns.map D.int) ρ := rfl
theorem v_iRange1 : diRange1 dr ρ = bnd (dr ρ) rangeItems1 := rfl
theorem v_iRange3 : diRange3 dr ρ = bnd (dr ρ) rangeItems3 := rfl
theorem v_iRange2 : diRange2 dr ρ = bnd (dr ρ) rangeItems2 := rfl
theorem v_range1 (h1 : -16777216 < i) (h2 : i < 16777216) : rangeItems1 [.imm b (.int i)] ρ = .ok (false, rangeD 0 i.toNat) ρ := if_pos ⟨h1, h2⟩
theorem v_range2 (h1 : -4611686018427387904 ≤ i) (h2 : i < 4611686018427387904) (h3 : -4611686018427387904 ≤ j) (h4 : j < 4611686018427387904) (h5 : j - i ≤ 16777216) : rangeItems2 [.imm b (.int i), .imm b1 (.int j)] ρ = .ok (false, rangeD i (j - i).toNat) ρ := if_pos ⟨h1, h2, h3, h4, h5⟩
theorem v_rangeD0 : rangeD i 0 = [] := rfl
theorem v_iRev : diRev de ρ = bnd (de ρ) revItems := rfl
theorem v_rev_lst : revItems (.imm b (.lst ds)) ρ = .ok (b, ds.reverse) ρ := rfl
theorem v_rev_tup : revItems (.imm b (.tup ds)) ρ = .ok (b, ds.reverse) ρ := rfl
def lcf (own : List Nat) (r : ER (List D)) : ER T := match r with
  | .ok r ρ2 => .ok (.lstI r) (killL own ρ2)
  | _ => .bad
def lck (own : List Nat) (dg : DG) (dt : DT) (de : DE) : Bool × List D → List T → ER T := fun p ρ => lcf own (compL dg dt de own p.1 p.2 (killL own ρ))
theorem v_Lc : dLc own dg di dt de ρ = bnd (di ρ) (lck own dg dt de) := by
  unfold dLc bnd ER.bind lck lcf
  cases di ρ with
  | ok p ρ1 =>
    all_goals (try simp only)
    all_goals (cases compL dg dt de own p.1 p.2 (killL own ρ1) <;> rfl)
  | exc e ρ => rfl
  | bad => rfl
theorem v_lck : lck own dg dt de (b, ds) ρ = lcf own (compL dg dt de own b ds (killL own ρ)) := rfl
theorem v_lcf : lcf own (.ok ds ρ) = .ok (.lstI ds) (killL own ρ) := rfl
theorem v_kill0 : killL [] ρ = ρ := rfl
theorem v_killS {ns : List Nat} : killL (n :: ns) ρ = killL ns (ρ.set n .dead) := rfl
def ck4 (d : D) (r : ER (List D)) : ER (List D) := match r with
  | .ok r ρ4 => .ok (d :: r) ρ4
  | _ => .bad
def ck3 (dg : DG) (dt : DT) (de : DE) (own : List Nat) (b : Bool) (ds : List D) (f : Option (Bool × D)) (ρ : List T) : ER (List D) := match f with
  | some (false, e) => ck4 e (compL dg dt de own b ds (killL own ρ))
  | _ => .bad
def ck2 (dg : DG) (dt : DT) (de : DE) (own : List Nat) (b : Bool) (ds : List D) (r : ER T) : ER (List D) := match r with
  | .ok t ρ => ck3 dg dt de own b ds t.frz ρ
  | _ => .bad
def ckb (x : Bool) (dg : DG) (dt : DT) (de : DE) (own : List Nat) (b : Bool) (ds : List D) (ρ : List T) : ER (List D) :=
  if x = true then ck2 dg dt de own b ds (de ρ) else compL dg dt de own b ds (killL own ρ)
def ck1 (dg : DG) (dt : DT) (de : DE) (own : List Nat) (b : Bool) (ds : List D) (r : ER Bool) : ER (List D) := match r with
  | .ok x ρ => ckb x dg dt de own b ds ρ
  | _ => .bad
def ckg (dg : DG) (dt : DT) (de : DE) (own : List Nat) (b : Bool) (ds : List D) (r : Option (List T)) : ER (List D) := match r with
  | some ρ => ck1 dg dt de own b ds (dt ρ)
  | none => .bad
theorem v_comp_nil : compL dg dt de own b [] ρ = .ok [] ρ := rfl
theorem v_ckg : ckg dg dt de own b ds (some ρ) = ck1 dg dt de own b ds (dt ρ) := rfl
theorem v_ck1_t : ck1 dg dt de own b ds (.ok true ρ) = ck2 dg dt de own b ds (de ρ) := rfl
theorem v_ck1_f : ck1 dg dt de own b ds (.ok false ρ) = compL dg dt de own b ds (killL own ρ) := rfl
theorem v_ck2 : ck2 dg dt de own b ds (.ok t ρ) = ck3 dg dt de own b ds t.frz ρ := rfl
theorem v_ck3 : ck3 dg dt de own b ds (some (false, e)) ρ = ck4 e (compL dg dt de own b ds (killL own ρ)) := rfl
theorem v_ck4 : ck4 d (.ok ds ρ) = .ok (d :: ds) ρ := rfl
end
end
/-! lists of own things -/
section
variable {α β : Type} {ρ : List T} {da db dc de dj dk : DE} {d : D} {b : Bool} {j : Int} {n jn : Nat} {ds : List D} {t u : T} {ts : List T} {dg : DG} {di : DI} {dt : DT} {own : List Nat}
theorem frz_some (h : frzs ts = some (b, ds)) : (T.lst ts).frz = some (b, .lst ds) := by rw [T.frz, h]
theorem frz_none (h : frzs ts = none) : (T.lst ts).frz = none := by rw [T.frz, h]
theorem v_obind {a : α} {f : α → Option β} : (some a).bind f = f a := rfl
theorem v_asO : asO (.lst ts) = some ts := rfl
theorem v_asO_nil : asO (.lstI []) = some [] := rfl
def frlk (ρ : List T) : Option (Bool × List D) → ER T
  | some (b, ds) => .ok (.imm b (.lst ds)) ρ
  | none => .bad
theorem v_frk_lst : frk (.lst ts) ρ = frlk ρ (frzs ts) := by
  cases e : frzs ts with
  | none =>
    unfold frk frlk
    simp only [frz_none e]
  | some q =>
    obtain ⟨b, ds⟩ := q
    unfold frk frlk
    simp only [frz_some e]
theorem v_frlk : frlk ρ (some (b, ds)) = .ok (.imm b (.lst ds)) ρ := rfl
def varl (n : Nat) (ρ : List T) : Option (Bool × List D) → ER T
  | some (b, ds) => .ok (.imm b (.lst ds)) (ρ.set n (.imm b (.lst ds)))
  | none => .bad
theorem v_vark_lst : vark n ρ (some (.lst ts)) = varl n ρ (frzs ts) := by
  cases e : frzs ts with
  | none =>
    unfold vark varl
    simp only [frz_none e]
  | some q =>
    obtain ⟨b, ds⟩ := q
    unfold vark varl
    simp only [frz_some e]
theorem v_varl : varl n ρ (some (b, ds)) = .ok (.imm b (.lst ds)) (ρ.set n (.imm b (.lst ds))) := rfl
def lendl (n : Nat) (de : DE) (ρ : List T) (ts : List T) : Option (Bool × List D) → ER T
  | some (_, ds) => lend2 n (.lst ts) ρ.length (de (ρ.set n (.imm true (.lst ds))))
  | none => .bad
theorem v_lendk_lst : lendk n de ρ (some (.lst ts)) = lendl n de ρ ts (frzs ts) := by
  cases e : frzs ts with
  | none =>
    unfold lendk lendl
    simp only [frz_none e]
  | some q =>
    obtain ⟨b, ds⟩ := q
    unfold lendk lendl
    simp only [frz_some e]
theorem v_lendl : lendl n de ρ ts (some (b, ds)) = lend2 n (.lst ts) ρ.length (de (ρ.set n (.imm true (.lst ds)))) := rfl
def lendtl (n : Nat) (dt : DT) (ρ : List T) (ts : List T) : Option (Bool × List D) → ER Bool
  | some (_, ds) => lendt2 n (.lst ts) ρ.length (dt (ρ.set n (.imm true (.lst ds))))
  | none => .bad
theorem v_lendtk_lst : lendtk n dt ρ (some (.lst ts)) = lendtl n dt ρ ts (frzs ts) := by
  cases e : frzs ts with
  | none =>
    unfold lendtk lendtl
    simp only [frz_none e]
  | some q =>
    obtain ⟨b, ds⟩ := q
    unfold lendtk lendtl
    simp only [frz_some e]
theorem v_lendtl : lendtl n dt ρ ts (some (b, ds)) = lendt2 n (.lst ts) ρ.length (dt (ρ.set n (.imm true (.lst ds)))) := rfl
def frzlk (b : Option (Bool × List D)) (r : Option (Bool × List D)) : Option (Bool × List D) := match b, r with
  | some (b, d), some (c, ds) => some (b || c, .lst d :: ds)
  | _, _ => none
theorem v_frzs_lst {us : List T} : frzs (.lst us :: ts) = frzlk (frzs us) (frzs ts) := by
  rw [frzs]
  cases e : frzs us with
  | none =>
    simp only [frz_none e]
    rfl
  | some q =>
    obtain ⟨b, ds⟩ := q
    simp only [frz_some e]
    cases frzs ts <;> rfl
theorem v_frzlk {b c : Bool} {ds es : List D} : frzlk (some (b, es)) (some (c, ds)) = some (b || c, .lst es :: ds) := rfl
def apo (n : Nat) (de : DE) (ρ : List T) : Option (List T) → ER T
  | some _ => bnd (de ρ) (pushk n)
  | none => .bad
theorem v_AppendO : dAppendO n de ρ = apo n de ρ ((ρ[n]?).bind asO) := by
  unfold dAppendO apo
  rfl
theorem v_apo : apo n de ρ (some ts) = bnd (de ρ) (pushk n) := rfl
def pushk3 (n : Nat) (t : T) (ρ : List T) : Option (List T) → ER T
  | some ts => if ts.length < 16777216 then .ok (.imm false .non) (ρ.set n (.lst (ts ++ [t]))) else .bad
  | none => .bad
theorem v_pushk : pushk n t ρ = pushk3 n t ρ ((ρ[n]?).bind asO) := by
  unfold pushk pushk3
  rfl
theorem v_pushk3 (h : ts.length < 16777216) : pushk3 n t ρ (some ts) = .ok (.imm false .non) (ρ.set n (.lst (ts ++ [t]))) := if_pos h
theorem v_PopO : dPopO n ρ = popk2 n ρ ((ρ[n]?).bind asO) := rfl
theorem v_popk2 : popk2 n ρ (some (ts ++ [t])) = .ok t (ρ.set n (.lst ts)) := by
  unfold popk2
  simp
def ap2a (n : Nat) (dj de : DE) (ρ : List T) : Option (List T) → ER T
  | some _ => bnd (dj ρ) (app2 n de)
  | none => .bad
theorem v_Append2 : dAppend2 n dj de ρ = ap2a n dj de ρ ((ρ[n]?).bind asO) := by
  unfold dAppend2 ap2a
  rfl
theorem v_ap2a : ap2a n dj de ρ (some ts) = bnd (dj ρ) (app2 n de) := rfl
def app2c (n : Nat) (de : DE) (ρ : List T) (ts : List T) : Option (Nat × List D) → ER T
  | some (jn, ds) => bnd (de (ρ.set n .dead)) (app3 n ts jn ds)
  | none => .bad
def app2b (n : Nat) (de : DE) (j : Int) (ρ : List T) : Option (List T) → ER T
  | some ts => app2c n de ρ ts (inner ts j)
  | none => .bad
theorem v_app2 : app2 n de (.imm b (.int j)) ρ = app2b n de j ρ ((ρ[n]?).bind asO) := by
  unfold app2 app2b app2c
  cases (ρ[n]?).bind asO with
  | none => rfl
  | some ts =>
    all_goals (try simp only)
    all_goals (cases inner ts j <;> rfl)
theorem v_app2b : app2b n de j ρ (some ts) = app2c n de ρ ts (inner ts j) := rfl
theorem v_app2c : app2c n de ρ ts (some (jn, ds)) = bnd (de (ρ.set n .dead)) (app3 n ts jn ds) := rfl
theorem v_app3 (h : ds.length < 16777216) (g : n < ρ.length) : app3 n ts jn ds (.imm false d) ρ = .ok (.imm false .non) (ρ.set n (.lst (ts.set jn (.lstI (ds ++ [d]))))) := if_pos ⟨h, g⟩
theorem v_app3_lstI {es : List D} (h : ds.length < 16777216) (g : n < ρ.length) : app3 n ts jn ds (.lstI es) ρ = .ok (.imm false .non) (ρ.set n (.lst (ts.set jn (.lstI (ds ++ [.lst es]))))) := if_pos ⟨h, g⟩
def forOk (n r : Nat) (body : DS) (ρ : List T) : Option (List T) → SR
  | some ts => forLO n r body 0 ts.length ρ
  | none => .bad
def six (n : Nat) (d : D) (k : Int) (ρ2 : List T) : Option T → SR
  | some (.lstI ds) => (match ixN ds.length k with
    | some j => .next (ρ2.set n (.lstI (ds.set j d)))
    | none => .bad)
  | _ => .bad
def sixa (n : Nat) (d : D) : ER T → SR
  | .ok (.imm _ (.int k)) ρ2 => six n d k ρ2 ρ2[n]?
  | _ => .bad
def six0 (n : Nat) (dk : DE) (ρ1 : List T) : Option T → Option (Bool × D) → SR
  | some (.lstI _), some (false, d) => sixa n d (dk ρ1)
  | _, _ => .bad
def sixk (n : Nat) (dk : DE) : T → List T → SR := fun t ρ1 => six0 n dk ρ1 ρ1[n]? t.frz
theorem v_SetIx : dSetIx n dk de ρ = exk (de ρ) (sixk n dk) := by
  show dEx de _ ρ = _
  unfold dEx exk
  cases de ρ with
  | bad => rfl
  | exc e ρ => rfl
  | ok t ρ1 =>
    simp only
    unfold sixk six0 sixa six
    cases ρ1[n]? with
    | none => rfl
    | some u =>
      cases u with
      | lstI ds =>
        cases t.frz with
        | none => rfl
        | some q =>
          obtain ⟨c, d⟩ := q
          cases c with
          | true => rfl
          | false =>
            all_goals (try simp only)
            all_goals (cases dk ρ1 with
              | bad => rfl
              | exc e ρ => rfl
              | ok y ρ2 =>
                cases y with
                | imm b dd =>
                  cases dd with
                  | int k =>
                    all_goals (try simp only)
                    all_goals (cases ρ2[n]? with
                      | none => rfl
                      | some u => cases u <;> rfl)
                  | _ => rfl
                | _ => rfl)
      | _ => rfl
theorem v_sixk : sixk n dk (.imm b d) ρ = six0 n dk ρ ρ[n]? (some (b, d)) := rfl
theorem v_sixk_lstI : sixk n dk (.lstI ds) ρ = six0 n dk ρ ρ[n]? (some (false, .lst ds)) := rfl
theorem v_six0 : six0 n dk ρ (some (.lstI ds)) (some (false, d)) = sixa n d (dk ρ) := rfl
theorem v_sixa : sixa n d (.ok (.imm b (.int j)) ρ) = six n d j ρ ρ[n]? := rfl
theorem v_six {k : Nat} (g : k < ds.length) : six n d (k : Nat) ρ (some (.lstI ds)) = .next (ρ.set n (.lstI (ds.set k d))) := by
  unfold six
  have e : ixN ds.length ((k : Nat) : Int) = some k := by
    unfold ixN
    rw [if_pos (by omega), if_pos (by omega)]; rfl
  simp only [e]
theorem v_ForO {r : Nat} {body : DS} : dForO n r body ρ = forOk n r body ρ ((ρ[n]?).bind asO) := by
  unfold dForO forOk
  rfl
theorem v_forOk {r : Nat} {body : DS} : forOk n r body ρ (some ts) = forLO n r body 0 ts.length ρ := rfl
def s2d (n : Nat) (d : D) (ts : List T) (jn : Nat) (ds : List D) : ER T → SR
  | .ok (.imm _ (.int k)) ρ3 => (match ixN ds.length k with
    | some kn => if n < ρ3.length then .next (ρ3.set n (.lst (ts.set jn (.lstI (ds.set kn d))))) else .bad
    | none => .bad)
  | _ => .bad
def s2c (n : Nat) (dk : DE) (d : D) (ts : List T) (ρ2 : List T) : Option (Nat × List D) → SR
  | some (jn, ds) => s2d n d ts jn ds (dk (ρ2.set n .dead))
  | none => .bad
def s2b (n : Nat) (dk : DE) (d : D) (j : Int) (ρ2 : List T) : Option (List T) → SR
  | some ts => s2c n dk d ts ρ2 (inner ts j)
  | none => .bad
def s2a (n : Nat) (dk : DE) (d : D) : ER T → SR
  | .ok (.imm _ (.int j)) ρ2 => s2b n dk d j ρ2 ((ρ2[n]?).bind asO)
  | _ => .bad
def s20 (n : Nat) (dj dk : DE) (ρ1 : List T) : Option (List T) → Option (Bool × D) → SR
  | some _, some (false, d) => s2a n dk d (dj ρ1)
  | _, _ => .bad
def set2k (n : Nat) (dj dk : DE) : T → List T → SR := fun t ρ1 => s20 n dj dk ρ1 ((ρ1[n]?).bind asO) t.frz
theorem v_SetIx2 : dSetIx2 n dj dk de ρ = exk (de ρ) (set2k n dj dk) := by
  show dEx de _ ρ = _
  unfold dEx exk
  cases de ρ with
  | bad => rfl
  | exc e ρ => rfl
  | ok t ρ1 =>
    simp only
    unfold set2k s20 s2a s2b s2c s2d
    cases (ρ1[n]?).bind asO with
    | none => rfl
    | some ts =>
      cases t.frz with
      | none => rfl
      | some q =>
        obtain ⟨c, d⟩ := q
        cases c with
        | true => rfl
        | false =>
          all_goals (try simp only)
          all_goals (cases dj ρ1 with
            | bad => rfl
            | exc e ρ => rfl
            | ok y ρ2 =>
              cases y with
              | imm b dd =>
                cases dd with
                | int j =>
                  all_goals (try simp only)
                  all_goals (cases (ρ2[n]?).bind asO with
                    | none => rfl
                    | some ts =>
                      all_goals (try simp only)
                      all_goals (cases inner ts j with
                        | none => rfl
                        | some q =>
                          obtain ⟨jn, ds⟩ := q
                          all_goals (try simp only)
                          all_goals (cases dk (ρ2.set n .dead) with
                            | bad => rfl
                            | exc e ρ => rfl
                            | ok z ρ3 =>
                              cases z with
                              | imm b dd => cases dd <;> rfl
                              | _ => rfl)))
                | _ => rfl
              | _ => rfl)
theorem v_set2k : set2k n dj dk (.imm b d) ρ = s20 n dj dk ρ ((ρ[n]?).bind asO) (some (b, d)) := rfl
theorem v_set2k_lstI : set2k n dj dk (.lstI ds) ρ = s20 n dj dk ρ ((ρ[n]?).bind asO) (some (false, .lst ds)) := rfl
theorem v_s20 : s20 n dj dk ρ (some ts) (some (false, d)) = s2a n dk d (dj ρ) := rfl
theorem v_s2a : s2a n dk d (.ok (.imm b (.int j)) ρ) = s2b n dk d j ρ ((ρ[n]?).bind asO) := rfl
theorem v_s2b : s2b n dk d j ρ (some ts) = s2c n dk d ts ρ (inner ts j) := rfl
theorem v_s2c : s2c n dk d ts ρ (some (jn, ds)) = s2d n d ts jn ds (dk (ρ.set n .dead)) := rfl
theorem v_s2d {k : Nat} (h : n < ρ.length) (g : k < ds.length) : s2d n d ts jn ds (.ok (.imm b (.int (k : Nat))) ρ) = .next (ρ.set n (.lst (ts.set jn (.lstI (ds.set k d))))) := by
  unfold s2d
  simp only
  have e : ixN ds.length ((k : Nat) : Int) = some k := by
    unfold ixN
    rw [if_pos (by omega), if_pos (by omega)]; rfl
  rw [e]
  simp only
  rw [if_pos h]
theorem v_s2d0 (h : n < ρ.length) (g : 0 < ds.length) : s2d n d ts jn ds (.ok (.imm b (.int 0)) ρ) = .next (ρ.set n (.lst (ts.set jn (.lstI (ds.set 0 d))))) := v_s2d (k := 0) h g
def lckO (own : List Nat) : ER (List T) → ER T
  | .ok r ρ2 => .ok (.lst r) (killL own ρ2)
  | _ => .bad
def lckO1 (own : List Nat) (dg : DG) (dt : DT) (de : DE) : Bool × List D → List T → ER T := fun p ρ => lckO own (compLO dg dt de own p.1 p.2 (killL own ρ))
theorem v_LcO : dLcO own dg di dt de ρ = bnd (di ρ) (lckO1 own dg dt de) := by
  unfold dLcO bnd ER.bind lckO1 lckO
  cases di ρ with
  | ok p ρ1 =>
    all_goals (try simp only)
    all_goals (cases compLO dg dt de own p.1 p.2 (killL own ρ1) <;> rfl)
  | exc e ρ => rfl
  | bad => rfl
theorem v_lckO1 : lckO1 own dg dt de (b, ds) ρ = lckO own (compLO dg dt de own b ds (killL own ρ)) := rfl
theorem v_lckO : lckO own (.ok ts ρ) = .ok (.lst ts) (killL own ρ) := rfl
/-- one turn that keeps an own thing -/
def MakesO (dg : DG) (dt : DT) (de : DE) (own : List Nat) (b : Bool) (d : D) (e : T) (ρ : List T) (R : List T → Prop) : Prop := ∃ ρ1 ρ2 ρ3, dg (.imm b d) ρ = some ρ1 ∧ dt ρ1 = .ok true ρ2 ∧ de ρ2 = .ok e ρ3 ∧ R (killL own ρ3)
theorem compLO_mapf {α : Type} {P : List T → Prop} {f : α → D} {g : α → T} : ∀ (xs : List α) (ρ : List T), P ρ → (∀ (a : α) (ρ : List T), a ∈ xs → P ρ → MakesO dg dt de own b (f a) (g a) ρ P) → ∃ ρ', compLO dg dt de own b (xs.map f) ρ = .ok (xs.map g) ρ' ∧ P ρ'
  | [], ρ, h, _ => ⟨ρ, rfl, h⟩
  | a :: xs, ρ, h, hs => by
    obtain ⟨ρ1, ρ2, ρ3, e1, e2, e3, h3⟩ := hs a ρ (by simp) h
    obtain ⟨ρ', e5, h5⟩ := compLO_mapf xs _ h3 fun a ρ ha => hs a ρ (by simp [ha])
    refine ⟨ρ', ?_, h5⟩
    rw [List.map_cons, List.map_cons]
    unfold compLO
    simp only [e1, e2, e3, e5]
theorem v_dOrd {i : Nat} {da : DE} : dOrd i da ρ = bnd (da ρ) (fOrd i) := rfl
def ordk (ρ : List T) : Option T → ER T
  | some r => .ok r ρ
  | none => .bad
theorem v_fOrd {i : Nat} {t : T} : fOrd i t ρ = ordk ρ (gOrd t ρ[i]?) := by
  unfold fOrd ordk
  cases gOrd t ρ[i]? <;> rfl
theorem v_ordk {r : T} : ordk ρ (some r) = .ok r ρ := rfl
theorem v_fSortI : fSortI [.imm b (.lst ds)] ρ = sortk ρ (D.ints ds) := rfl
theorem v_sortk {ns : List Int} : sortk ρ (some ns) = .ok (.lstI ((sortI ns).map D.int)) ρ := rfl
theorem v_dLstRg {da : DE} : dLstRg da ρ = bnd (da ρ) fLstRg := rfl
theorem v_fLstRg (h1 : 0 ≤ i) (h2 : i ≤ 16777216) : fLstRg (.imm b (.int i)) ρ = .ok (.lstI (rangeD 0 i.toNat)) ρ := if_pos ⟨h1, h2⟩
theorem v_dMinDef {z : Int} {da : DE} : dMinDef z da ρ = bnd (da ρ) (fMinDef z) := rfl
theorem v_fMinDef {z : Int} : fMinDef z (.imm b (.lst ds)) ρ = mindk z ρ (D.ints ds) := rfl
theorem v_mindk {z : Int} {ns : List Int} : mindk z ρ (some ns) = .ok (.imm false (.int (minDef z ns))) ρ := rfl
end
end Gb

namespace Gb
open PySem PySem.Spec L2
local macro_rules | `(tactic| walk_at "ev") => `(tactic| simp -implicitDefEqProofs (disch := first | omega | (simp -implicitDefEqProofs only [p_int, p_non, p_bl, p_lst, p_tup, p_nil, p_cons, List.length_cons, List.length_nil, Nat.reduceAdd, Nat.reduceLT, decide_true, Bool.and_self, Bool.true_and]; done) | (simp -implicitDefEqProofs only [List.length_map, List.length_append, List.length_reverse, List.length_range, List.length_replicate, List.length_cons, List.length_nil, List.length_take, List.length_drop, rangeD_length]; omega)) only [v_bnd, v_bnd_exc, v_bnd_bad, v_bnd_ite, v_d1, v_d2, v_d2k, v_okS, v_fS, v_gInt, v_gCmp, v_eq_int, v_ne_int, v_eq_bl, v_ne_bl, v_gLt_int, v_gLt_pair, v_eq_strS, v_eq_str, v_ne_strS, v_ne_str, v_eq_ni, v_eq_in, v_eq_nn, v_ne_ni, v_ne_in, v_ne_nn, v_is_non, v_is_bl, v_isnot_non, v_isnot_bl, v_isn_non, v_isn_bl, v_isn_int, v_isn_str, v_isn_lst, v_isn_tup, v_mod, v_div, v_mul_l, v_mul_r, v_mul_mm, v_pow, v_shl, v_shls, v_shl_mm, v_shr, v_add_int, v_add_str, v_add_lst, v_add_tup, v_mul_int, v_mul_lst, v_U, v_var, v_vark, v_vark_dicI, v_movk_dicI0, v_vark_lstI, v_move, v_movk, v_movk_lstI, v_movk_lst, v_Lend, v_tLend, v_lendtk, v_lendtk_lstI, v_lendt2, v_ListV, v_lsvk, v_lendk, v_lendk_lstI, v_lend2, v_noBs_nil, v_noBs, v_noB_imm, v_noB_dead, v_noB_lstI, v_noB_lst, v_C, v_Fr, v_frk, v_frk_lstI, v_Dic0, v_Dic1, v_fDic1, v_frk_dicI, v_isn_dic, v_Nil, v_Cons, v_consk, v_consk2, v_Tup, v_fTup, v_tupk, v_Lst, v_fLst, v_lstk, v_frzs_nil, v_frzs, v_frzs_dicI, v_frzs_lstI, v_frzk, v_frz, v_frz_lstI, v_Bi, v_Call, v_callk, v_after, v_after_exc, v_after_ite, v_Seq, v_seqk, v_seqk_ret, v_seqk_exc, v_seqk_brk, v_seqk_cont, v_seqk_ite, v_exk, v_exk_exc, v_exk_ite, v_Raise, v_Try, v_tryk, v_exD, v_IsE, v_isek, v_anyO_nil, v_anyO_t, v_anyO_f, v_isT_nil, v_isT, v_isT2, v_Xf, v_Pass, v_Break, v_Cont, v_Set, v_setk, v_Ret, v_retk, v_RetN, v_Drop, v_dropk, v_Asg, v_asgk, v_asgk2, v_gName, v_gTup, v_gNil, v_gCons, v_gck, v_If, v_ifk, v_ifk_exc, v_ifk_ite, v_iteS_t, v_iteS_f, v_iteS_d, v_iteS_n, v_tVal, v_asBool, v_tAnd, v_tandk_t, v_tandk_f, v_tandk_d, v_tOr, v_tork_t, v_tork_f, v_tork_d, v_tNot, v_tnotk, v_tYes, v_And, v_andk_t, v_andk_f, v_andk_d, v_Or, v_ork_f, v_ork_t, v_ork_d, v_Not, v_notk, v_IfE, v_ifek, v_ifek_ite, v_iteE_t, v_iteE_f, v_iteE_d, v_iteE_n, v_fin_next, v_fin_ret, v_fin_exc, v_fin_ite, v_mkFn, v_rep0, v_repS, v_fLen, v_lenk, v_len_lst, v_len_tup, v_len_scr, v_len_str, v_lenV, v_lenvk, v_lenvk_lstI, v_lenvk_lst, v_fMinP2, v_fMinP_1, v_fMinP_2, v_fRepr, v_reprk, v_fAbs, v_fMax2, v_fMin2, v_fInt, v_fInt_bl, v_fTuple_l, v_bfl_f, v_bfl_t, v_fTuple_t, v_fList_l, v_fList_t, v_fList_b, v_fList_s, v_fBools, v_blk, v_fSum, v_sumk, v_intList, v_ints_nil, v_ints, v_bools_nil, v_bools, v_consO, v_isi, v_isik, v_isik2, v_isit, v_isitk, v_isIn_nil, v_isIn, v_isInk_t, v_isInk_f, v_tyB, v_ite_lt_t, v_ite_lt_f, v_ite_le_t, v_ite_le_f, v_ite_eq_t, v_ite_eq_f1, v_ite_eq_f2, v_Chain, v_chk1, v_chk2, v_chk3_t, v_chk3_f, v_chk3_d, v_okT, v_fIx, v_gIx_lst, v_gIx_tup, v_gIx_scr, v_itm_f, v_itm_int, v_itm_non, v_itm_lst, v_itm_tup, v_itm_str, v_ixV, v_ixk_lstI, v_ixk_imm, v_ixk2, v_ixk2', v_ixk3, v_ixk4, v_at0, v_at1, v_at2, v_at3, v_at4, v_at5, v_at6, v_at7, v_at8, v_at9, v_oNone, v_oSome, v_somek, v_Sl, v_slk, v_slk2, v_slk3, v_fSl_lst, v_fSl_tup, v_fSl_scr, v_cut_take, v_cut_drop, v_cut_mid, v_Append, v_appk, v_appk2, v_appk3, v_Clear, v_Reverse, v_rvsk, v_Lr, v_revk, v_Tr, v_tuprk, v_BitL, v_bitk, v_clrk, v_Pop, v_popk, v_Extend, v_extk, v_extk2, v_extk3, v_For, v_fork, v_for_nil, v_forkg, v_forkk, v_forkk_cont, v_forkk_brk, v_forkk_ret, v_forkk_exc, v_iVal, v_items_lst, v_items_tup, v_items_scr, v_iRange1, v_iRange3, v_iRange2, v_range1, v_range2, v_rangeD0, v_iRev, v_rev_lst, v_rev_tup, v_Lc, v_lck, v_lcf, v_kill0, v_killS, v_comp_nil, v_ckg, v_ck1_t, v_ck1_f, v_ck2, v_ck3, v_ck4, v_obind, v_asO, v_asO_nil, v_frk_lst, v_frlk, v_vark_lst, v_varl, v_lendk_lst, v_lendl, v_lendtk_lst, v_lendtl, v_frzs_lst, v_frzlk, v_AppendO, v_apo, v_pushk, v_pushk3, v_PopO, v_popk2, v_Append2, v_ap2a, v_app2, v_app2b, v_app2c, v_app3, v_app3_lstI, v_SetIx, v_sixk, v_sixk_lstI, v_six0, v_sixa, v_six, v_ForO, v_forOk, v_SetIx2, v_set2k, v_set2k_lstI, v_s20, v_s2a, v_s2b, v_s2c, v_s2d, v_s2d0, v_LcO, v_lckO1, v_lckO, v_dOrd, v_fOrd, v_ordk, v_fSortI, v_sortk, v_dLstRg, v_fLstRg, v_dMinDef, v_fMinDef, v_mindk, isB_NoneType_int, isB_NoneType_bool, isB_NoneType_str, isB_NoneType_list, isB_NoneType_tuple, isB_NoneType_dict, isB_bool_int, isB_bool_bool, isB_bool_str, isB_bool_list, isB_bool_tuple, isB_bool_dict, isB_int_int, isB_int_bool, isB_int_str, isB_int_list, isB_int_tuple, isB_int_dict, isB_str_int, isB_str_bool, isB_str_str, isB_str_list, isB_str_tuple, isB_str_dict, isB_list_int, isB_list_bool, isB_list_str, isB_list_list, isB_list_tuple, isB_list_dict, isB_tuple_int, isB_tuple_bool, isB_tuple_str, isB_tuple_list, isB_tuple_tuple, isB_tuple_dict, isB_dict_int, isB_dict_bool, isB_dict_str, isB_dict_list, isB_dict_tuple, isB_dict_dict, kind_NoneType, kind_bool, kind_int, kind_str, kind_list, kind_tuple, kind_dict, List.getElem?_cons_zero, List.getElem?_cons_succ, List.getElem?_nil, List.set_cons_zero, List.set_cons_succ, List.length_cons, List.length_nil, List.cons_append, List.nil_append, List.append_nil, List.map_nil, List.map_cons, Nat.reduceAdd, Nat.reduceSub, Nat.reduceMul, Nat.reduceEqDiff, Nat.reduceLeDiff, Nat.zero_add, Nat.add_zero, Bool.not_true, Bool.not_false, Bool.and_true, Bool.true_and, Bool.and_false, Bool.false_and, Bool.or_true, Bool.true_or, Bool.or_false, Bool.false_or, Bool.not_not, Bool.and_self, Bool.or_self, Option.map_some, Option.map_none, decide_true, decide_false, reduceCtorEq, Bool.false_eq_true, List.all_nil, List.all_cons, id_eq, ↓reduceIte, if_true, if_false, beq_self_eq_true, Int.reduceAdd, Int.reduceSub, Int.reduceMul, Int.reduceNeg, Int.reduceLT, Int.reduceLE, Int.reduceEq, Int.reduceNe, Int.reduceToNat, Int.reduceMod, Int.reduceDiv, Int.reducePow, Nat.reducePow, Nat.reduceBEq, Int.toNat_natCast, Int.zero_add, Int.add_zero, Int.sub_zero, ne_eq, not_true_eq_false, not_false_eq_true, and_true, true_and, and_self, Nat.lt_irrefl, Int.natCast_eq_zero, decide_not, eqv_int, List.length_append, List.length_map, Int.cast_ofNat_Int, List.sum_cons, List.sum_nil, ints_map, bools_map])
local macro_rules | `(tactic| walk_at "ev*") => `(tactic| simp -implicitDefEqProofs (disch := first | omega | (simp -implicitDefEqProofs only [p_int, p_non, p_bl, p_lst, p_tup, p_nil, p_cons, List.length_cons, List.length_nil, Nat.reduceAdd, Nat.reduceLT, decide_true, Bool.and_self, Bool.true_and]; done) | (simp -implicitDefEqProofs only [List.length_map, List.length_append, List.length_reverse, List.length_range, List.length_replicate, List.length_cons, List.length_nil, List.length_take, List.length_drop, rangeD_length]; omega)) only [v_bnd, v_bnd_exc, v_bnd_bad, v_bnd_ite, v_d1, v_d2, v_d2k, v_okS, v_fS, v_gInt, v_gCmp, v_eq_int, v_ne_int, v_eq_bl, v_ne_bl, v_gLt_int, v_gLt_pair, v_eq_strS, v_eq_str, v_ne_strS, v_ne_str, v_eq_ni, v_eq_in, v_eq_nn, v_ne_ni, v_ne_in, v_ne_nn, v_is_non, v_is_bl, v_isnot_non, v_isnot_bl, v_isn_non, v_isn_bl, v_isn_int, v_isn_str, v_isn_lst, v_isn_tup, v_mod, v_div, v_mul_l, v_mul_r, v_mul_mm, v_pow, v_shl, v_shls, v_shl_mm, v_shr, v_add_int, v_add_str, v_add_lst, v_add_tup, v_mul_int, v_mul_lst, v_U, v_var, v_vark, v_vark_dicI, v_movk_dicI0, v_vark_lstI, v_move, v_movk, v_movk_lstI, v_movk_lst, v_Lend, v_tLend, v_lendtk, v_lendtk_lstI, v_lendt2, v_ListV, v_lsvk, v_lendk, v_lendk_lstI, v_lend2, v_noBs_nil, v_noBs, v_noB_imm, v_noB_dead, v_noB_lstI, v_noB_lst, v_C, v_Fr, v_frk, v_frk_lstI, v_Dic0, v_Dic1, v_fDic1, v_frk_dicI, v_isn_dic, v_Nil, v_Cons, v_consk, v_consk2, v_Tup, v_fTup, v_tupk, v_Lst, v_fLst, v_lstk, v_frzs_nil, v_frzs, v_frzs_dicI, v_frzs_lstI, v_frzk, v_frz, v_frz_lstI, v_Bi, v_Call, v_callk, v_after, v_after_exc, v_after_ite, v_Seq, v_seqk, v_seqk_ret, v_seqk_exc, v_seqk_brk, v_seqk_cont, v_seqk_ite, v_exk, v_exk_exc, v_exk_ite, v_Raise, v_Try, v_tryk, v_exD, v_IsE, v_isek, v_anyO_nil, v_anyO_t, v_anyO_f, v_isT_nil, v_isT, v_isT2, v_Xf, v_Pass, v_Break, v_Cont, v_Set, v_setk, v_Ret, v_retk, v_RetN, v_Drop, v_dropk, v_Asg, v_asgk, v_asgk2, v_gName, v_gTup, v_gNil, v_gCons, v_gck, v_If, v_ifk, v_ifk_exc, v_ifk_ite, v_iteS_t, v_iteS_f, v_iteS_d, v_iteS_n, v_tVal, v_asBool, v_tAnd, v_tandk_t, v_tandk_f, v_tandk_d, v_tOr, v_tork_t, v_tork_f, v_tork_d, v_tNot, v_tnotk, v_tYes, v_And, v_andk_t, v_andk_f, v_andk_d, v_Or, v_ork_f, v_ork_t, v_ork_d, v_Not, v_notk, v_IfE, v_ifek, v_ifek_ite, v_iteE_t, v_iteE_f, v_iteE_d, v_iteE_n, v_fin_next, v_fin_ret, v_fin_exc, v_fin_ite, v_mkFn, v_rep0, v_repS, v_fLen, v_lenk, v_len_lst, v_len_tup, v_len_scr, v_len_str, v_lenV, v_lenvk, v_lenvk_lstI, v_lenvk_lst, v_fMinP2, v_fMinP_1, v_fMinP_2, v_fRepr, v_reprk, v_fAbs, v_fMax2, v_fMin2, v_fInt, v_fInt_bl, v_fTuple_l, v_bfl_f, v_bfl_t, v_fTuple_t, v_fList_l, v_fList_t, v_fList_b, v_fList_s, v_fBools, v_blk, v_fSum, v_sumk, v_intList, v_ints_nil, v_ints, v_bools_nil, v_bools, v_consO, v_isi, v_isik, v_isik2, v_isit, v_isitk, v_isIn_nil, v_isIn, v_isInk_t, v_isInk_f, v_tyB, v_ite_lt_t, v_ite_lt_f, v_ite_le_t, v_ite_le_f, v_ite_eq_t, v_ite_eq_f1, v_ite_eq_f2, v_Chain, v_chk1, v_chk2, v_chk3_t, v_chk3_f, v_chk3_d, v_okT, v_fIx, v_gIx_lst, v_gIx_tup, v_gIx_scr, v_itm_f, v_itm_int, v_itm_non, v_itm_lst, v_itm_tup, v_itm_str, v_ixV, v_ixk_lstI, v_ixk_imm, v_ixk2, v_ixk2', v_ixk3, v_ixk4, v_at0, v_at1, v_at2, v_at3, v_at4, v_at5, v_at6, v_at7, v_at8, v_at9, v_oNone, v_oSome, v_somek, v_Sl, v_slk, v_slk2, v_slk3, v_fSl_lst, v_fSl_tup, v_fSl_scr, v_cut_take, v_cut_drop, v_cut_mid, v_Append, v_appk, v_appk2, v_appk3, v_Clear, v_Reverse, v_rvsk, v_Lr, v_revk, v_Tr, v_tuprk, v_BitL, v_bitk, v_clrk, v_Pop, v_popk, v_Extend, v_extk, v_extk2, v_extk3, v_For, v_fork, v_for_nil, v_forkg, v_forkk, v_forkk_cont, v_forkk_brk, v_forkk_ret, v_forkk_exc, v_iVal, v_items_lst, v_items_tup, v_items_scr, v_iRange1, v_iRange3, v_iRange2, v_range1, v_range2, v_rangeD0, v_iRev, v_rev_lst, v_rev_tup, v_Lc, v_lck, v_lcf, v_kill0, v_killS, v_comp_nil, v_ckg, v_ck1_t, v_ck1_f, v_ck2, v_ck3, v_ck4, v_obind, v_asO, v_asO_nil, v_frk_lst, v_frlk, v_vark_lst, v_varl, v_lendk_lst, v_lendl, v_lendtk_lst, v_lendtl, v_frzs_lst, v_frzlk, v_AppendO, v_apo, v_pushk, v_pushk3, v_PopO, v_popk2, v_Append2, v_ap2a, v_app2, v_app2b, v_app2c, v_app3, v_app3_lstI, v_SetIx, v_sixk, v_sixk_lstI, v_six0, v_sixa, v_six, v_ForO, v_forOk, v_SetIx2, v_set2k, v_set2k_lstI, v_s20, v_s2a, v_s2b, v_s2c, v_s2d, v_s2d0, v_LcO, v_lckO1, v_lckO, v_dOrd, v_fOrd, v_ordk, v_fSortI, v_sortk, v_dLstRg, v_fLstRg, v_dMinDef, v_fMinDef, v_mindk, isB_NoneType_int, isB_NoneType_bool, isB_NoneType_str, isB_NoneType_list, isB_NoneType_tuple, isB_NoneType_dict, isB_bool_int, isB_bool_bool, isB_bool_str, isB_bool_list, isB_bool_tuple, isB_bool_dict, isB_int_int, isB_int_bool, isB_int_str, isB_int_list, isB_int_tuple, isB_int_dict, isB_str_int, isB_str_bool, isB_str_str, isB_str_list, isB_str_tuple, isB_str_dict, isB_list_int, isB_list_bool, isB_list_str, isB_list_list, isB_list_tuple, isB_list_dict, isB_tuple_int, isB_tuple_bool, isB_tuple_str, isB_tuple_list, isB_tuple_tuple, isB_tuple_dict, isB_dict_int, isB_dict_bool, isB_dict_str, isB_dict_list, isB_dict_tuple, isB_dict_dict, kind_NoneType, kind_bool, kind_int, kind_str, kind_list, kind_tuple, kind_dict, List.getElem?_cons_zero, List.getElem?_cons_succ, List.getElem?_nil, List.set_cons_zero, List.set_cons_succ, List.length_cons, List.length_nil, List.cons_append, List.nil_append, List.append_nil, List.map_nil, List.map_cons, Nat.reduceAdd, Nat.reduceSub, Nat.reduceMul, Nat.reduceEqDiff, Nat.reduceLeDiff, Nat.zero_add, Nat.add_zero, Bool.not_true, Bool.not_false, Bool.and_true, Bool.true_and, Bool.and_false, Bool.false_and, Bool.or_true, Bool.true_or, Bool.or_false, Bool.false_or, Bool.not_not, Bool.and_self, Bool.or_self, Option.map_some, Option.map_none, decide_true, decide_false, reduceCtorEq, Bool.false_eq_true, List.all_nil, List.all_cons, id_eq, ↓reduceIte, if_true, if_false, beq_self_eq_true, Int.reduceAdd, Int.reduceSub, Int.reduceMul, Int.reduceNeg, Int.reduceLT, Int.reduceLE, Int.reduceEq, Int.reduceNe, Int.reduceToNat, Int.reduceMod, Int.reduceDiv, Int.reducePow, Nat.reducePow, Nat.reduceBEq, Int.toNat_natCast, Int.zero_add, Int.add_zero, Int.sub_zero, ne_eq, not_true_eq_false, not_false_eq_true, and_true, true_and, and_self, Nat.lt_irrefl, Int.natCast_eq_zero, decide_not, eqv_int, List.length_append, List.length_map, Int.cast_ofNat_Int, List.sum_cons, List.sum_nil, ints_map, bools_map, *])
def aDen (F : FnT) : DS := (dSeq (dIf (dtVal (dBi fIsi (dCons (dVar 1) (dCons (dTup (dCons (dC (.ty "tuple")) (dCons (dC (.ty "list")) dNil))) dNil)))) (dSeq (dIf (dtOr (dtVal (d2 oNe (dBi fIsi (dCons (dVar 1) (dCons (dC (.ty "tuple")) dNil))) (dBi fIsi (dCons (dVar 0) (dCons (dC (.ty "tuple")) dNil))))) (dtVal (d2 oNe (dBi fIsi (dCons (dVar 1) (dCons (dC (.ty "list")) dNil))) (dBi fIsi (dCons (dVar 0) (dCons (dC (.ty "list")) dNil)))))) (dRet (dC (.bl false))) dPass)
    (dSeq (dIf (dtVal (d2 oNe (dLenV 0) (dLenV 1))) (dRet (dC (.bl false))) dPass)
    (dRet (dBi (fBools fun bs => bs.all id) (dCons (dFr (dLc [2] (dgName 2) (diRange1 (dCons (dLenV 1) dNil)) dtYes (dFr (dCall F [] (dCons (dIxV 0 (dVar 2)) (dCons (dIxV 1 (dVar 2)) dNil)))))) dNil))))) dPass)
    (dSeq (dIf (dtOr (dtVal (d2 oIs (dVar 1) (dC .non))) (dtVal (d2 oIs (dVar 0) (dC .non)))) (dRet (dAnd (d2 oIs (dVar 1) (dC .non)) (d2 oIs (dVar 0) (dC .non)))) dPass)
    (dSeq (dIf (dtOr (dtVal (dBi fIsi (dCons (dVar 1) (dCons (dC (.ty "bool")) dNil)))) (dtVal (dBi fIsi (dCons (dVar 0) (dCons (dC (.ty "bool")) dNil))))) (dRet (dAnd (dBi fIsi (dCons (dVar 1) (dCons (dC (.ty "bool")) dNil))) (dAnd (dBi fIsi (dCons (dVar 0) (dCons (dC (.ty "bool")) dNil))) (d2 oEq (dVar 0) (dVar 1))))) dPass)
    (dSeq (dIf (dtVal (dBi fIsi (dCons (dVar 1) (dCons (dC (.ty "str")) dNil)))) (dRet (dAnd (dBi fIsi (dCons (dVar 0) (dCons (dC (.ty "str")) dNil))) (d2 oEq (dVar 0) (dVar 1)))) dPass)
    (dRet (dAnd (dBi fIsi (dCons (dVar 0) (dCons (dC (.ty "int")) dNil))) (d2 oEq (dVar 0) (dVar 1))))))))
def aFr : Nat → FnT
  | 0 => fun _ => .bad
  | n + 1 => mkFn 3 2 (aDen (aFr n))
theorem alike_int (n : Nat) (b c : Bool) (i : Int) : aFr (n + 1) [.imm b (.int i), .imm c (.int i)] = .ok (.imm false (.bl true)) := by
  unfold aFr aDen
  walk_at "ev"
theorem alike_non (n : Nat) (b c : Bool) : aFr (n + 1) [.imm b .non, .imm c .non] = .ok (.imm false (.bl true)) := by
  unfold aFr aDen
  walk_at "ev"
theorem alike_bl (n : Nat) (b c d : Bool) : aFr (n + 1) [.imm b (.bl d), .imm c (.bl d)] = .ok (.imm false (.bl true)) := by
  unfold aFr aDen
  walk_at "ev"
theorem alike_str (n : Nat) (b c : Bool) (s : Str) (h : PyData.strOk s = true) : aFr (n + 1) [.imm b (.str s), .imm c (.str s)] = .ok (.imm false (.bl true)) := by
  have e : gEq (.str s) (.str s) = some (.bl true) := by
    unfold gEq
    simp
  unfold aFr aDen
  walk_at "ev*"
theorem bools_true (n : Nat) : D.bools ((List.range n).map fun _ => D.bl true) = some (List.replicate n true) := by
  have e : ((List.range n).map fun _ => D.bl true) = (List.replicate n true).map D.bl := by
    rw [List.map_const', List.map_replicate, List.length_range]
  rw [e, bools_map]
theorem all_true (n : Nat) : (List.replicate n true).all id = true := by simp
theorem alike_comp (n : Nat) (b c : Bool) (ds : List D) (d : D) (hd : (∀ i : Nat, i < ds.length → gIx b d (i : Int) = ds[i]?.map (itm b)) ∧ ∀ i : Nat, i < ds.length → gIx c d (i : Int) = ds[i]?.map (itm c)) (h : ∀ d ∈ ds, ∀ b c : Bool, aFr n [.imm b d, .imm c d] = .ok (.imm false (.bl true))) :
    compL (dgName 2) dtYes (dFr (dCall (aFr n) [] (dCons (dIxV 0 (dVar 2)) (dCons (dIxV 1 (dVar 2)) dNil)))) [2] false (rangeD 0 ds.length) [.imm b d, .imm c d, .dead] = .ok ((List.range ds.length).map fun _ => .bl true) [.imm b d, .imm c d, .dead] := by
  obtain ⟨ρ', e, hp⟩ := compL_range (dg := dgName 2) (dt := dtYes) (own := [2]) (b := false) (lo := 0) (n := ds.length) (f := fun _ => D.bl true) (P := fun ρ => ρ = [.imm b d, .imm c d, .dead])
    (de := dFr (dCall (aFr n) [] (dCons (dIxV 0 (dVar 2)) (dCons (dIxV 1 (dVar 2)) dNil)))) (ρ := [.imm b d, .imm c d, .dead]) rfl fun i ρ hi hp => by
      subst hp
      have h1 := hd.1 i hi
      have h2 := hd.2 i hi
      rw [List.getElem?_eq_getElem hi, Option.map_some] at h1 h2
      refine ⟨[.imm b d, .imm c d, .imm false (.int (0 + i))], _, .imm false (.bl true), [.imm b d, .imm c d, .imm false (.int (0 + i))], rfl, rfl, ?_, rfl, rfl⟩
      have h3 : aFr n [itm b ds[i], itm c ds[i]] = .ok (.imm false (.bl true)) := by
        unfold itm
        exact h _ (List.getElem_mem hi) _ _
      clear hd h
      walk_at "ev*"
  rw [e, hp]
theorem alike_lst (n : Nat) (b c : Bool) (ds : List D) (hl : ds.length < 16777216) (h : ∀ d ∈ ds, ∀ b c : Bool, aFr n [.imm b d, .imm c d] = .ok (.imm false (.bl true))) : aFr (n + 1) [.imm b (.lst ds), .imm c (.lst ds)] = .ok (.imm false (.bl true)) := by
  have e := alike_comp n b c ds (.lst ds) ⟨fun i hi => by rw [v_gIx_lst, atI_ofNat hi, List.getElem?_eq_getElem hi], fun i hi => by rw [v_gIx_lst, atI_ofNat hi, List.getElem?_eq_getElem hi]⟩ h
  unfold aFr aDen
  walk_at "ev"
  simp only [e]
  walk_at "ev"
  simp only [bools_true]
  walk_at "ev"
  simp only [all_true]
theorem alike_tup (n : Nat) (b c : Bool) (ds : List D) (hl : ds.length < 16777216) (h : ∀ d ∈ ds, ∀ b c : Bool, aFr n [.imm b d, .imm c d] = .ok (.imm false (.bl true))) : aFr (n + 1) [.imm b (.tup ds), .imm c (.tup ds)] = .ok (.imm false (.bl true)) := by
  have e := alike_comp n b c ds (.tup ds) ⟨fun i hi => by rw [v_gIx_tup, atI_ofNat hi, List.getElem?_eq_getElem hi], fun i hi => by rw [v_gIx_tup, atI_ofNat hi, List.getElem?_eq_getElem hi]⟩ h
  unfold aFr aDen
  walk_at "ev"
  simp only [e]
  walk_at "ev"
  simp only [bools_true]
  walk_at "ev"
  simp only [all_true]
/-- plain data is alike to itself -/
theorem alike_self : ∀ (m : Nat) (d : D) (n : Nat) (b c : Bool), d.pl m = true → m ≤ n → aFr (n + 1) [.imm b d, .imm c d] = .ok (.imm false (.bl true))
  | m, .non, n, b, c, _, _ => alike_non n b c
  | m, .bl x, n, b, c, _, _ => alike_bl n b c x
  | m, .int x, n, b, c, _, _ => alike_int n b c x
  | m, .str x, n, b, c, h, _ => alike_str n b c x h
  | m + 1, .lst xs, n + 1, b, c, h, hn => alike_lst (n + 1) b c xs (pl_lst_inv h).1 fun d hd b c => alike_self m d n b c ((pl_lst_inv h).2 d hd) (by omega)
  | m + 1, .tup xs, n + 1, b, c, h, hn => alike_tup (n + 1) b c xs (pl_tup_inv h).1 fun d hd b c => alike_self m d n b c ((pl_tup_inv h).2 d hd) (by omega)
  | 0, .lst xs, n, b, c, h, hn => by cases h
  | 0, .tup xs, n, b, c, h, hn => by cases h
  | _, .scr _, _, _, _, h, _ => by cases h
  | _, .ty _, _, _, _, h, _ => by cases h
  | _, .dic _ _, _, _, _, h, _ => by cases h
  | _, .obj _ _ _, _, _, _, h, _ => by cases h
  | _, .exn _ _ _ _, _, _, _, h, _ => by cases h
  | _, .exv _ _ _, _, _, _, h, _ => by cases h
end Gb

namespace Gb
open PySem PySem.Spec L2
/-! pictures as rows of cells -/
abbrev Cell := Option Nat
def cellD : Cell → D
  | none => .non
  | some i => .int i
def rowD (r : List Cell) : D := .lst (r.map cellD)
def rowsD (rs : List (List Cell)) : D := .lst (rs.map rowD)
def clr (c : Cell) : Nat := c.getD 0
def okc (c : Cell) : Prop := clr c < 16
def pnt : List Cell → Nat
  | [] => 0
  | c :: r => 2 ^ 4 * pnt r + clr c
def msk : List Cell → Nat
  | [] => 0
  | c :: r => 2 ^ 1 * msk r + c.isSome.toNat
def picD (w : Nat) (rs : List (List Cell)) : D := .tup [.int w, .int rs.length, .tup (rs.map fun r => .int (pnt r)), .tup (rs.map fun r => .int (msk r))]
/-- the cell at a place of a row, a hole off it -/
def at? (r : List Cell) (i : Nat) : Cell := (r[i]?).getD none
@[simp] theorem at_nil {i : Nat} : at? [] i = none := rfl
@[simp] theorem at_zero {c : Cell} {r : List Cell} : at? (c :: r) 0 = c := rfl
@[simp] theorem at_succ {c : Cell} {r : List Cell} {i : Nat} : at? (c :: r) (i + 1) = at? r i := rfl
theorem clr_lt {c : Cell} (h : okc c) : clr c < 2 ^ 4 := h
theorem okc_none : okc none := by show 0 < 16; omega
theorem okc_at {r : List Cell} (h : ∀ c ∈ r, okc c) (i : Nat) : okc (at? r i) := by
  unfold at?
  cases e : r[i]? with
  | none => exact okc_none
  | some c => exact h c (List.mem_of_getElem? e)
theorem pnt_bit : ∀ (r : List Cell) (i : Nat), (∀ c ∈ r, okc c) → (pnt r).testBit i = (clr (at? r (i / 4))).testBit (i % 4)
  | [], i, _ => by
    show Nat.testBit 0 i = Nat.testBit 0 _
    rw [Nat.zero_testBit, Nat.zero_testBit]
  | c :: r, i, h => by
    unfold pnt
    rw [Nat.testBit_two_pow_mul_add _ (clr_lt (h c (by simp)))]
    by_cases hi : i < 4
    · rw [if_pos hi, show i / 4 = 0 by omega, show i % 4 = i by omega]; rfl
    · rw [if_neg hi, pnt_bit r (i - 4) fun c hc => h c (by simp [hc])]
      obtain ⟨k, hk⟩ : ∃ k, i / 4 = k + 1 := ⟨i / 4 - 1, by omega⟩
      rw [hk, at_succ, show (i - 4) / 4 = k by omega, show (i - 4) % 4 = i % 4 by omega]
theorem msk_bit : ∀ (r : List Cell) (i : Nat), (msk r).testBit i = (at? r i).isSome
  | [], i => Nat.zero_testBit i
  | c :: r, i => by
    unfold msk
    rw [Nat.testBit_two_pow_mul_add _ (show c.isSome.toNat < 2 ^ 1 by cases c <;> simp)]
    cases i with
    | zero =>
      rw [if_pos (by omega)]
      show _ = c.isSome
      cases c <;> simp
    | succ i =>
      rw [if_neg (by omega), at_succ, show i + 1 - 1 = i by omega, msk_bit r i]
/-- the row of a function -/
def rowOf (w : Nat) (f : Nat → Cell) : List Cell := (List.range w).map f
@[simp] theorem rowOf_length {w : Nat} {f : Nat → Cell} : (rowOf w f).length = w := by simp [rowOf]
theorem at_rowOf {w : Nat} {f : Nat → Cell} {i : Nat} : at? (rowOf w f) i = if i < w then f i else none := by
  unfold at? rowOf
  by_cases h : i < w
  · rw [if_pos h, List.getElem?_map, List.getElem?_range h]; rfl
  · rw [if_neg h, List.getElem?_eq_none (by simp; omega)]; rfl
theorem okc_rowOf {w : Nat} {f : Nat → Cell} (h : ∀ i, okc (f i)) : ∀ c ∈ rowOf w f, okc c := fun c hc => by
  obtain ⟨i, _, rfl⟩ := List.mem_map.mp hc
  exact h i
theorem at_none {r : List Cell} {i : Nat} (h : r.length ≤ i) : at? r i = none := by
  unfold at?
  rw [List.getElem?_eq_none h]; rfl
theorem row_ext {r s : List Cell} (l : r.length = s.length) (h : ∀ i, at? r i = at? s i) : r = s := by
  refine List.ext_getElem l fun i h1 h2 => ?_
  have e := h i
  unfold at? at e
  rw [List.getElem?_eq_getElem h1, List.getElem?_eq_getElem h2] at e
  exact e
theorem pnt_lt {r : List Cell} (h : ∀ c ∈ r, okc c) {w : Nat} (hl : r.length ≤ w) : pnt r < 2 ^ (4 * w) := by
  refine Nat.lt_pow_two_of_testBit _ fun i hi => ?_
  rw [pnt_bit r i h, at_none (by omega)]
  exact Nat.zero_testBit _
theorem msk_lt {r : List Cell} {w : Nat} (hl : r.length ≤ w) : msk r < 2 ^ w := by
  refine Nat.lt_pow_two_of_testBit _ fun i hi => ?_
  rw [msk_bit r i, at_none (by omega)]
  rfl
/-! bits -/
theorem bor_nat (a b : Nat) : Builtin.bitOr (a : Int) (b : Int) = ((a ||| b : Nat) : Int) := by
  have hn : ∀ n : Nat, Builtin.bitNot (n : Int) = -(n : Int) - 1 := fun n => rfl
  unfold Builtin.bitOr
  rw [hn, hn, PyProof.Rows.bitAnd_nn (by omega) (by omega)]
  simp only [Builtin.bitNot]
  rw [show (-(-(a : Int) - 1) - 1).toNat = a by omega, show (-(-(b : Int) - 1) - 1).toNat = b by omega]
  omega
/-! cuts -/
def cellAt (r : List Cell) (z : Int) : Cell := if 0 ≤ z then at? r z.toNat else none
def lookC (rs : List (List Cell)) (x y : Int) : Cell := if 0 ≤ y then cellAt ((rs[y.toNat]?).getD []) x else none
structure Rect (rs : List (List Cell)) (w h : Nat) : Prop where
  len : rs.length = h
  row : ∀ r ∈ rs, r.length = w ∧ ∀ c ∈ r, okc c
  h1 : 1 ≤ h
  w1 : 1 ≤ w
  h64 : h ≤ 64
  w64 : w ≤ 64
theorem okc_cellAt {r : List Cell} (h : ∀ c ∈ r, okc c) (z : Int) : okc (cellAt r z) := by
  unfold cellAt
  split
  · exact okc_at h _
  · exact okc_none
theorem Rect.okc {rs : List (List Cell)} {w h : Nat} (R : Rect rs w h) (x y : Int) : okc (lookC rs x y) := by
  unfold lookC
  split
  · cases e : rs[y.toNat]? with
    | none => exact okc_cellAt (fun c hc => by simp at hc) _
    | some r => exact okc_cellAt (R.row r (List.mem_of_getElem? e)).2 _
  · exact okc_none
def cutR (rs : List (List Cell)) (x y : Int) (w h : Nat) : List (List Cell) := (List.range h).map fun (j : Nat) => rowOf w fun i => lookC rs (x + i) (y + j)
theorem pnt_foldl (r : List Cell) : r.reverse.foldl (fun (p : Nat) c => p * 16 + clr c) 0 = pnt r := by
  rw [List.foldl_reverse]
  induction r with
  | nil => rfl
  | cons c r ih =>
    rw [List.foldr_cons, ih]
    show _ = 2 ^ 4 * pnt r + clr c
    omega
theorem msk_foldl (r : List Cell) : r.reverse.foldl (fun (p : Nat) c => p * 2 + c.isSome.toNat) 0 = msk r := by
  rw [List.foldl_reverse]
  induction r with
  | nil => rfl
  | cons c r ih =>
    rw [List.foldr_cons, ih]
    show _ = 2 ^ 1 * msk r + c.isSome.toNat
    omega
theorem picD_pl {w : Nat} {rs : List (List Cell)} (h : rs.length ≤ 64) {n : Nat} : (picD w rs).pl (n + 2) = true := pl_tup (show 4 < 16777216 by decide) fun d hd => by
  simp only [List.mem_cons, List.not_mem_nil, or_false] at hd
  rcases hd with rfl | rfl | rfl | rfl
  · rfl
  · rfl
  · refine pl_tup (by simp; omega) fun d hd => ?_
    obtain ⟨r, _, rfl⟩ := List.mem_map.mp hd
    rfl
  · refine pl_tup (by simp; omega) fun d hd => ?_
    obtain ⟨r, _, rfl⟩ := List.mem_map.mp hd
    rfl
theorem cutR_at {rs : List (List Cell)} {x y : Int} {w h j : Nat} : (cutR rs x y w h)[j]? = if j < h then some (rowOf w fun i => lookC rs (x + i) (y + j)) else none := by
  unfold cutR
  rw [List.getElem?_map]
  by_cases hj : j < h
  · rw [if_pos hj, List.getElem?_range hj]; rfl
  · rw [if_neg hj, List.getElem?_eq_none (by simp; omega)]; rfl
theorem lookC_at {rs : List (List Cell)} {j : Nat} {r : List Cell} (h : rs[j]? = some r) (i : Nat) : lookC rs (i : Int) (j : Int) = at? r i := by
  unfold lookC cellAt
  rw [if_pos (by omega), if_pos (by omega), Int.toNat_natCast, Int.toNat_natCast, h]; rfl
theorem cut_self {rs : List (List Cell)} {w h : Nat} (R : Rect rs w h) : cutR rs 0 0 w h = rs := by
  refine List.ext_getElem? fun j => ?_
  rw [cutR_at]
  by_cases hj : j < h
  · have hj' : j < rs.length := by rw [R.len]; exact hj
    rw [if_pos hj, List.getElem?_eq_getElem hj']
    have Rr := R.row _ (List.getElem_mem hj')
    refine congrArg some (row_ext (by rw [rowOf_length, Rr.1]) fun i => ?_)
    rw [at_rowOf]
    by_cases hi : i < w
    · rw [if_pos hi, Int.zero_add, Int.zero_add, lookC_at (List.getElem?_eq_getElem hj')]
    · rw [if_neg hi, at_none (by rw [Rr.1]; omega)]
  · rw [if_neg hj, List.getElem?_eq_none (by rw [R.len]; omega)]
end Gb

namespace Gb
open PySem PySem.Spec L2
section
variable {dg : DG} {body : DS} {b : Bool} {P : Nat → List T → Prop} {R : T → List T → Prop}
end
/-! the lowest bit -/
/-! where two pictures touch -/
theorem lookC_some {rs : List (List Cell)} {w h : Nat} (R : Rect rs w h) {x y : Int} (e : (lookC rs x y).isSome = true) : 0 ≤ x ∧ x < w ∧ 0 ≤ y ∧ y < h := by
  unfold lookC cellAt at e
  by_cases hy : 0 ≤ y
  · rw [if_pos hy] at e
    by_cases hx : 0 ≤ x
    · rw [if_pos hx] at e
      unfold at? at e
      cases er : rs[y.toNat]? with
      | none => rw [er] at e; simp at e
      | some r =>
        have hl := (List.getElem?_eq_some_iff.mp er).1
        rw [R.len] at hl
        rw [er] at e
        simp only [Option.getD_some] at e
        have hr := R.row r (List.mem_of_getElem? er)
        cases ec : r[x.toNat]? with
        | none => rw [ec] at e; simp at e
        | some c =>
          have hc := (List.getElem?_eq_some_iff.mp ec).1
          rw [hr.1] at hc
          omega
    · rw [if_neg hx] at e; simp at e
  · rw [if_neg hy] at e; simp at e
/-! a row's bits, one cell more -/
theorem pnt_snoc : ∀ (l : List Cell) (c : Cell), pnt (l ++ [c]) = pnt l + 2 ^ (4 * l.length) * clr c
  | [], c => by simp [pnt]
  | a :: l, c => by
    rw [List.cons_append]
    unfold pnt
    rw [pnt_snoc l c, List.length_cons, show 4 * (l.length + 1) = 4 + 4 * l.length by omega, Nat.pow_add, Nat.mul_add, Nat.mul_assoc]
    omega
theorem msk_snoc : ∀ (l : List Cell) (c : Cell), msk (l ++ [c]) = msk l + 2 ^ l.length * c.isSome.toNat
  | [], c => by simp [msk]
  | a :: l, c => by
    rw [List.cons_append]
    unfold msk
    rw [msk_snoc l c, List.length_cons, show l.length + 1 = 1 + l.length by omega, Nat.pow_add, Nat.mul_add, Nat.mul_assoc]
    omega
theorem or_add {a b i : Nat} (h : b < 2 ^ i) : b ||| a * 2 ^ i = b + 2 ^ i * a := by
  rw [Nat.or_comm, Nat.mul_comm a, ← Nat.two_pow_add_eq_or_of_lt h a, Nat.add_comm]
theorem pnt_or {l : List Cell} (h : ∀ c ∈ l, okc c) (n : Nat) : Builtin.bitOr ((pnt l : Nat) : Int) ((n : Int) * 2 ^ (4 * (l.length : Int)).toNat) = ((pnt (l ++ [some n]) : Nat) : Int) := by
  rw [show (4 * (l.length : Int)).toNat = 4 * l.length by omega, show (n : Int) * 2 ^ (4 * l.length) = ((n * 2 ^ (4 * l.length) : Nat) : Int) by simp, bor_nat, or_add (pnt_lt h (Nat.le_refl _)), pnt_snoc]
  rfl
theorem msk_or {l : List Cell} (n : Nat) : Builtin.bitOr ((msk l : Nat) : Int) (1 * 2 ^ l.length) = ((msk (l ++ [some n]) : Nat) : Int) := by
  rw [show (1 : Int) * 2 ^ l.length = ((1 * 2 ^ l.length : Nat) : Int) by simp, bor_nat, or_add (msk_lt (Nat.le_refl _)), msk_snoc]
  rfl
theorem pnt_hole {l : List Cell} : pnt (l ++ [none]) = pnt l := by
  rw [pnt_snoc]
  simp [clr]
theorem msk_hole {l : List Cell} : msk (l ++ [none]) = msk l := by
  rw [msk_snoc]
  simp
theorem itm_cell {c : Bool} {x : Cell} : itm c (cellD x) = .imm false (cellD x) := by
  cases x <;> simp [itm, cellD, D.flat]
theorem itm_row {c : Bool} {r : List Cell} : itm c (rowD r) = .imm c (rowD r) := by
  simp [itm, rowD, D.flat]
theorem gIx_row {c : Bool} {r : List Cell} {i : Nat} {x : Cell} (h : r[i]? = some x) : gIx c (rowD r) (i : Int) = some (.imm false (cellD x)) := by
  unfold rowD
  rw [v_gIx_lst, atI_eq (by omega) (by have := (List.getElem?_eq_some_iff.mp h).1; simp; omega), List.getElem?_map, Int.toNat_natCast, h]
  show some (itm c (cellD x)) = _
  rw [itm_cell]
theorem gIx_rows {c : Bool} {rs : List (List Cell)} {i : Nat} {r : List Cell} (h : rs[i]? = some r) : gIx c (rowsD rs) (i : Int) = some (.imm c (rowD r)) := by
  unfold rowsD
  rw [v_gIx_lst, atI_eq (by omega) (by have := (List.getElem?_eq_some_iff.mp h).1; simp; omega), List.getElem?_map, Int.toNat_natCast, h]
  show some (itm c (rowD r)) = _
  rw [itm_row]
theorem all_bl {α : Type} (xs : List α) : D.bools (xs.map fun _ => D.bl true) = some (List.replicate xs.length true) := by
  have : (xs.map fun _ => D.bl true) = (List.replicate xs.length true).map D.bl := by
    rw [List.map_const', List.map_replicate]
  rw [this, bools_map]
end Gb

namespace Gb
open PySem PySem.Spec L2
/-! turned and mirrored -/
theorem rect_ext {rs rs' : List (List Cell)} {w h : Nat} (R : Rect rs w h) (R' : Rect rs' w h) (e : ∀ x y, lookC rs x y = lookC rs' x y) : rs = rs' := by
  rw [← cut_self R, ← cut_self R']
  unfold cutR
  simp only [e]
def turnR (rs : List (List Cell)) (w h : Nat) : List (List Cell) := (List.range w).map fun (y : Nat) => rowOf h fun x => lookC rs (y : Int) ((h : Int) - 1 - x)
theorem Rect.turn {rs : List (List Cell)} {w h : Nat} (R : Rect rs w h) : Rect (turnR rs w h) h w where
  len := by simp [turnR]
  row := fun r hr => by
    obtain ⟨j, _, rfl⟩ := List.mem_map.mp hr
    exact ⟨rowOf_length, okc_rowOf fun i => R.okc _ _⟩
  h1 := R.w1
  w1 := R.h1
  w64 := R.h64
  h64 := R.w64
theorem lookC_none {rs : List (List Cell)} {w h : Nat} (R : Rect rs w h) {x y : Int} (q : x < 0 ∨ (w : Int) ≤ x ∨ y < 0 ∨ (h : Int) ≤ y) : lookC rs x y = none := by
  cases e : lookC rs x y with
  | none => rfl
  | some n =>
    have z := lookC_some R (x := x) (y := y) (by rw [e]; rfl)
    omega
theorem lookC_turn {rs : List (List Cell)} {w h : Nat} (R : Rect rs w h) (x y : Int) : lookC (turnR rs w h) x y = lookC rs y ((h : Int) - 1 - x) := by
  by_cases q : x < 0 ∨ (h : Int) ≤ x ∨ y < 0 ∨ (w : Int) ≤ y
  · rw [lookC_none R.turn (by omega), lookC_none R (by omega)]
  · obtain ⟨i, rfl⟩ := Int.eq_ofNat_of_zero_le (show 0 ≤ x by omega)
    obtain ⟨j, rfl⟩ := Int.eq_ofNat_of_zero_le (show 0 ≤ y by omega)
    have e : (turnR rs w h)[j]? = some (rowOf h fun x => lookC rs (j : Int) ((h : Int) - 1 - x)) := by
      unfold turnR
      rw [List.getElem?_map, List.getElem?_range (by omega)]; rfl
    rw [lookC_at e, at_rowOf, if_pos (by omega)]
def mirR (rs : List (List Cell)) : List (List Cell) := rs.map List.reverse
theorem Rect.mir {rs : List (List Cell)} {w h : Nat} (R : Rect rs w h) : Rect (mirR rs) w h where
  len := by simp [mirR, R.len]
  row := fun r hr => by
    obtain ⟨s, hs, rfl⟩ := List.mem_map.mp hr
    exact ⟨by rw [List.length_reverse, (R.row s hs).1], fun c hc => (R.row s hs).2 c (List.mem_reverse.mp hc)⟩
  h1 := R.h1
  w1 := R.w1
  w64 := R.w64
  h64 := R.h64
theorem lookC_mir {rs : List (List Cell)} {w h : Nat} (R : Rect rs w h) (x y : Int) : lookC (mirR rs) x y = lookC rs ((w : Int) - 1 - x) y := by
  by_cases q : x < 0 ∨ (w : Int) ≤ x ∨ y < 0 ∨ (h : Int) ≤ y
  · rw [lookC_none R.mir (by omega), lookC_none R (by omega)]
  · obtain ⟨i, rfl⟩ := Int.eq_ofNat_of_zero_le (show 0 ≤ x by omega)
    obtain ⟨j, rfl⟩ := Int.eq_ofNat_of_zero_le (show 0 ≤ y by omega)
    obtain ⟨r, hr⟩ : ∃ r, rs[j]? = some r := ⟨_, List.getElem?_eq_getElem (by rw [R.len]; omega)⟩
    have hl := (R.row r (List.mem_of_getElem? hr)).1
    have e : (mirR rs)[j]? = some r.reverse := by
      unfold mirR
      rw [List.getElem?_map, hr]; rfl
    rw [lookC_at e, show (w : Int) - 1 - (i : Int) = ((w - 1 - i : Nat) : Int) by omega, lookC_at hr]
    unfold at?
    rw [List.getElem?_reverse (by omega), hl]
structure Pc where
  rs : List (List Cell)
  w : Nat
  h : Nat
def Pc.G (X : Pc) : Prop := Rect X.rs X.w X.h
def Pc.t (X : Pc) : Pc := ⟨turnR X.rs X.w X.h, X.h, X.w⟩
def Pc.m (X : Pc) : Pc := ⟨mirR X.rs, X.w, X.h⟩
theorem Pc.G.t {X : Pc} (g : X.G) : X.t.G := Rect.turn g
theorem Pc.G.m {X : Pc} (g : X.G) : X.m.G := Rect.mir g
theorem Pc.look_t {X : Pc} (g : X.G) (x y : Int) : lookC X.t.rs x y = lookC X.rs y ((X.h : Int) - 1 - x) := lookC_turn g x y
theorem Pc.look_m {X : Pc} (g : X.G) (x y : Int) : lookC X.m.rs x y = lookC X.rs ((X.w : Int) - 1 - x) y := lookC_mir g x y
theorem Pc.ext' {X Y : Pc} (g : X.G) (g' : Y.G) (hw : X.w = Y.w) (hh : X.h = Y.h) (e : ∀ x y, lookC X.rs x y = lookC Y.rs x y) : X = Y := by
  obtain ⟨rs, w, h⟩ := X
  obtain ⟨rs', w', h'⟩ := Y
  simp only at hw hh e
  subst hw; subst hh
  have : rs = rs' := rect_ext g g' e
  rw [this]
theorem Pc.t4 {X : Pc} (g : X.G) : X.t.t.t.t = X := Pc.ext' g.t.t.t.t g rfl rfl fun x y => by
  rw [look_t g.t.t.t, look_t g.t.t, look_t g.t, look_t g]
  show lookC X.rs ((X.w : Int) - 1 - ((X.w : Int) - 1 - x)) ((X.h : Int) - 1 - ((X.h : Int) - 1 - y)) = _
  congr 1 <;> omega
theorem Pc.m2 {X : Pc} (g : X.G) : X.m.m = X := Pc.ext' g.m.m g rfl rfl fun x y => by
  rw [look_m g.m, look_m g]
  show lookC X.rs ((X.w : Int) - 1 - ((X.w : Int) - 1 - x)) y = _
  congr 1; omega
def Pc.it : Nat → Pc → Pc
  | 0, X => X
  | n + 1, X => (Pc.it n X).t
theorem Pc.G.it {X : Pc} (g : X.G) : ∀ n, (Pc.it n X).G
  | 0 => g
  | n + 1 => (g.it n).t
def Pc.mi (b : Nat) (X : Pc) : Pc := if b = 1 then X.m else X
theorem Pc.G.mi {X : Pc} (g : X.G) (b : Nat) : (Pc.mi b X).G := by
  unfold Pc.mi
  split
  · exact g.m
  · exact g
def Pc.po (p : Nat) (X : Pc) : Pc := Pc.it (p % 4) (Pc.mi (p / 4) X)
theorem Pc.G.po {X : Pc} (g : X.G) (p : Nat) : (Pc.po p X).G := (g.mi _).it _
end Gb

namespace Gb
open PySem PySem.Spec L2 PyProof.Rows LamX
/-! the law's beginning where tables of code objects stand ready -/
abbrev scrO (vs : List Value) : Obj := { cls := .type "list", data := .seq vs.toArray }
abbrev tabO (ps : Array Value) : Obj := { cls := .none, data := .fields ps }
/-- nothing but the script at a and the empty tables is told of -/
structure Beg (h : Heap) (a : Addr) (vs : List Value) (ns : List Int) (ts : List Addr) (H : Hp) : Prop where
  scr : h.get? a = some (scrO vs)
  tab : ∀ b ∈ ts, h.get? b = some (tabO #[]) ∧ H b = some (.tbl #[])
  is : ∀ b u, H b = some u → (b = a ∧ u = .frz (scrO vs) (.lst (ns.map V.int))) ∨ (b ∈ ts ∧ u = .tbl #[])
section
variable {h : Heap} {a : Addr} {vs : List Value} {ns : List Int} {ts : List Addr} {H : Hp}
theorem Beg.un (B : Beg h a vs ns ts H) {b : Addr} {o : Obj} (e : h.get? b = some o) (n1 : o ≠ scrO vs) (n2 : o ≠ tabO #[]) : H b = none := by
  cases q : H b with
  | none => rfl
  | some u =>
    rcases B.is b u q with ⟨rfl, _⟩ | ⟨z, _⟩
    · exact absurd (Option.some.inj (e.symm.trans B.scr)) n1
    · exact absurd (Option.some.inj (e.symm.trans (B.tab b z).1)) n2
theorem Beg.see (B : Beg h a vs ns ts H) {b : Addr} {o : Obj} (e : h.get? b = some o) (n1 : o ≠ scrO vs) (n2 : o ≠ tabO #[]) : (hidT h H).get? b = some o := hidT_get e (B.un e n1 n2)
theorem Beg.nms (B : Beg h a vs ns ts H) {b : Addr} {m : Str → Option Value} : h.Ns b m → (hidT h H).Ns b m
  | ⟨o, es, ep, e, d, r⟩ => ⟨o, es, ep, B.see e (fun z => by rw [z] at d; cases d) (fun z => by rw [z] at d; cases d), d, r⟩
theorem Beg.lim (B : Beg h a vs ns ts H) : h.NoLimit → (hidT h H).NoLimit
  | ⟨mc, h1, h2⟩ => ⟨mc, B.nms h1, h2⟩
theorem Beg.ok (B : Beg h a vs ns ts H) {P : Program} {w : World} (rv : Vals (ns.map V.int) vs) (hl : ns.length ≤ sizeLine) : HOk P w H h := fun b u q => by
  rcases B.is b u q with ⟨rfl, rfl⟩ | ⟨z, rfl⟩
  · exact ⟨B.scr, by rw [List.length_map]; exact hl, vs, _, rv, B.scr⟩
  · exact (B.tab b z).1
theorem Beg.code (B : Beg h a vs ns ts H) {c P : Addr} (C : PySem.W.CodeHd h c P) : PySem.W.CodeHd (hidT h H) c P := by
  obtain ⟨o, us, f, tf, fl, tg, inF, tx, tt, e, k, d, r⟩ := C
  have n1 : o ≠ scrO vs := fun z => by rw [z] at k; exact absurd k (by simp)
  have n2 : o ≠ tabO #[] := fun z => by rw [z] at k; exact absurd k (by simp)
  exact ⟨o, us, f, tf, fl, tg, inF, tx, tt, B.see e n1 n2, k, d, r⟩
end
end Gb

namespace Gb
open PySem PySem.Spec L2
/-! layers, and the order of a pile -/
structure Ly where
  rk : Int
  rs : List (List Cell)
  w : Nat
  h : Nat
  x : Int
  y : Int
def Ly.rect (L : Ly) : Prop := Rect L.rs L.w L.h
def Ly.near (L : Ly) : Prop := -1000000000 ≤ L.rk ∧ L.rk ≤ 1000000000 ∧ -1000000000 ≤ L.x ∧ L.x ≤ 1000000000 ∧ -1000000000 ≤ L.y ∧ L.y ≤ 1000000000
def plD (L : Ly) : D := .tup [.int L.rk, picD L.w L.rs, .int L.x, .int L.y]
def Ly.at (L : Ly) (x y : Int) : Cell := lookC L.rs (x - L.x) (y - L.y)
def rkA (Ls : List Ly) (i : Nat) : Int := ((Ls[i]?).map Ly.rk).getD 0
def leK (Ls : List Ly) (i j : Nat) : Prop := rkA Ls i < rkA Ls j ∨ (rkA Ls i = rkA Ls j ∧ i ≤ j)
def ords (Ls : List Ly) : List Nat := ordL (Ls.map plD)
theorem rkOf_plD (Ls : List Ly) (i : Nat) : rkOf (Ls.map plD) i = rkA Ls i := by
  unfold rkOf rkA
  rw [List.getElem?_map]
  cases Ls[i]? <;> rfl
theorem ords_eq (Ls : List Ly) : ords Ls = (List.range Ls.length).mergeSort fun p q => decide (rkA Ls p < rkA Ls q ∨ (rkA Ls p = rkA Ls q ∧ (p : Int) ≤ (q : Int))) := by
  have e : rkOf (Ls.map plD) = rkA Ls := funext (rkOf_plD Ls)
  have q := PySem.W.dataLe_ii (β := Nat) (rkA Ls) (fun i => (i : Int))
  unfold ords ordL
  rw [List.length_map, e, ← q]
  rfl
theorem ords_perm (Ls : List Ly) : (ords Ls).Perm (List.range Ls.length) := by
  rw [ords_eq]; exact List.mergeSort_perm _ _
theorem ords_mem (Ls : List Ly) {i : Nat} : i ∈ ords Ls ↔ i < Ls.length := by
  rw [(ords_perm Ls).mem_iff, List.mem_range]
theorem ords_le (Ls : List Ly) : (ords Ls).Pairwise (leK Ls) := by
  rw [ords_eq]
  refine (List.pairwise_mergeSort (fun a b c h1 h2 => ?_) (fun a b => ?_) _).imp fun {a b} h => ?_
  · have h1 := of_decide_eq_true h1
    have h2 := of_decide_eq_true h2
    exact decide_eq_true (by omega)
  · by_cases h : rkA Ls a < rkA Ls b ∨ (rkA Ls a = rkA Ls b ∧ (a : Int) ≤ (b : Int))
    · rw [decide_eq_true h]; rfl
    · rw [decide_eq_true (p := rkA Ls b < rkA Ls a ∨ (rkA Ls b = rkA Ls a ∧ (b : Int) ≤ (a : Int))) (by omega)]
      exact Bool.or_true _
  · have h := of_decide_eq_true h
    unfold leK
    omega
def sees (Ls : List Ly) (x y : Int) (i : Nat) : Prop := ∃ L, Ls[i]? = some L ∧ (L.at x y).isSome = true
theorem sees.lt {Ls : List Ly} {x y : Int} {i : Nat} (h : sees Ls x y i) : i < Ls.length := by
  obtain ⟨L, e, _⟩ := h
  exact (List.getElem?_eq_some_iff.mp e).1
/-- the uppermost layer there -/
def IsTop (Ls : List Ly) (x y : Int) : Option Nat → Prop
  | none => ∀ j, ¬ sees Ls x y j
  | some i => sees Ls x y i ∧ ∀ j, sees Ls x y j → leK Ls j i
theorem take_succ_mem {α : Type} {l : List α} {k : Nat} {a j : α} (hk : l[k]? = some a) (hj : j ∈ l.take (k + 1)) : j ∈ l.take k ∨ j = a := by
  rw [List.take_add_one, hk] at hj
  rcases List.mem_append.mp hj with h | h
  · exact .inl h
  · exact .inr (by simpa using h)
theorem top_back {Ls : List Ly} {x y : Int} {k i : Nat} (hk : (ords Ls).reverse[k]? = some i) (h : ∀ j ∈ (ords Ls).reverse.take k, ¬ sees Ls x y j) (hs : sees Ls x y i) : IsTop Ls x y (some i) := by
  refine ⟨hs, fun j hj => ?_⟩
  have hm : j ∈ (ords Ls).reverse := List.mem_reverse.mpr ((ords_mem Ls).mpr hj.lt)
  have pw : (ords Ls).reverse.Pairwise fun a b => leK Ls b a := List.pairwise_reverse.mpr (ords_le Ls)
  rw [← List.take_append_drop k (ords Ls).reverse] at hm pw
  rcases List.mem_append.mp hm with z | z
  · exact absurd hj (h j z)
  · have hd : (ords Ls).reverse.drop k = i :: (ords Ls).reverse.drop (k + 1) := by
      obtain ⟨hl, e⟩ := List.getElem?_eq_some_iff.mp hk
      rw [List.drop_eq_getElem_cons hl, e]
    rw [hd] at z pw
    rcases List.mem_cons.mp z with rfl | z
    · exact .inr ⟨rfl, Nat.le_refl _⟩
    · exact (List.pairwise_cons.mp (List.pairwise_append.mp pw).2.1).1 j z
theorem top_none {Ls : List Ly} {x y : Int} {k : Nat} (hk : (ords Ls).length ≤ k) (h : ∀ j ∈ (ords Ls).reverse.take k, ¬ sees Ls x y j) : IsTop Ls x y none := fun j hj => by
  refine h j ?_ hj
  rw [List.take_of_length_le (by simpa using hk)]
  exact List.mem_reverse.mpr ((ords_mem Ls).mpr hj.lt)
end Gb

namespace Gb
open PySem PySem.Spec L2
/-! grids of cells; what is painted -/
def gridR (w h : Nat) (f : Nat → Nat → Cell) : List (List Cell) := (List.range h).map fun y => rowOf w fun x => f x y
theorem gridR_len {w h : Nat} {f : Nat → Nat → Cell} : (gridR w h f).length = h := by simp [gridR]
theorem Rect.grid {w h : Nat} {f : Nat → Nat → Cell} (a1 : 1 ≤ w) (a2 : w ≤ 64) (a3 : 1 ≤ h) (a4 : h ≤ 64) (ok : ∀ x y, Gb.okc (f x y)) : Rect (gridR w h f) w h where
  len := gridR_len
  row := fun r hr => by
    obtain ⟨y, _, rfl⟩ := List.mem_map.mp hr
    exact ⟨by simp [rowOf], okc_rowOf fun x => ok x y⟩
  w1 := a1
  w64 := a2
  h1 := a3
  h64 := a4
def colAt (Ls : List Ly) (o : Option Nat) (x y : Int) (g : Cell) : Cell := match o with
  | none => g
  | some i => ((Ls[i]?).map fun L => L.at x y).getD none
theorem okc_colAt {Ls : List Ly} (hG : ∀ L ∈ Ls, L.rect) {g : Cell} (hg : okc g) (o : Option Nat) (x y : Int) : okc (colAt Ls o x y g) := by
  cases o with
  | none => exact hg
  | some i =>
    show okc (((Ls[i]?).map fun L => L.at x y).getD none)
    cases e : Ls[i]? with
    | none => exact okc_none
    | some L => exact Rect.okc (hG L (List.mem_of_getElem? e)) _ _
theorem top_ex (Ls : List Ly) (x y : Int) : ∃ o, IsTop Ls x y o := by
  have aux : ∀ m : Nat, (∃ o, IsTop Ls x y o) ∨ ∀ j ∈ (ords Ls).reverse.take m, ¬ sees Ls x y j := by
    intro m
    induction m with
    | zero => exact .inr fun j hj => by simp at hj
    | succ m ih =>
      rcases ih with h | h
      · exact .inl h
      · cases e : (ords Ls).reverse[m]? with
        | none =>
          refine .inr fun j hj => h j ?_
          rw [List.take_add_one, e] at hj
          simpa using hj
        | some i =>
          by_cases hs : sees Ls x y i
          · exact .inl ⟨_, top_back e h hs⟩
          · refine .inr fun j hj => ?_
            rcases take_succ_mem e hj with z | rfl
            · exact h j z
            · exact hs
  rcases aux (ords Ls).length with h | h
  · exact h
  · exact ⟨none, top_none (Nat.le_refl _) h⟩
noncomputable def topO (Ls : List Ly) (x y : Int) : Option Nat := Classical.choose (top_ex Ls x y)
noncomputable def paintR (Ls : List Ly) (w h : Nat) (g : Cell) : List (List Cell) := gridR w h fun x y => colAt Ls (topO Ls x y) x y g
theorem Rect.paint {Ls : List Ly} (hG : ∀ L ∈ Ls, L.rect) {w h : Nat} {g : Cell} (hg : Gb.okc g) (a1 : 1 ≤ w) (a2 : w ≤ 64) (a3 : 1 ≤ h) (a4 : h ≤ 64) : Rect (paintR Ls w h g) w h := Rect.grid a1 a2 a3 a4 fun x y => okc_colAt hG hg _ _ _
/-- the uppermost of some layers -/
def TopIn (Ls : List Ly) (p : List Nat) (x y : Int) : Option Nat → Prop
  | none => ∀ j ∈ p, ¬ sees Ls x y j
  | some i => i ∈ p ∧ sees Ls x y i ∧ ∀ j ∈ p, sees Ls x y j → leK Ls j i
theorem TopIn.all {Ls : List Ly} {x y : Int} : ∀ {o : Option Nat}, TopIn Ls (ords Ls) x y o → IsTop Ls x y o
  | none, h => fun j hj => h j ((ords_mem Ls).mpr hj.lt) hj
  | some i, h => ⟨h.2.1, fun j hj => h.2.2 j ((ords_mem Ls).mpr hj.lt) hj⟩
theorem TopIn.take {Ls : List Ly} {p : List Nat} {a : Nat} {x y : Int} (hs : sees Ls x y a) (hp : ∀ j ∈ p, leK Ls j a) : TopIn Ls (p ++ [a]) x y (some a) := by
  refine ⟨by simp, hs, fun j hj hj2 => ?_⟩
  rcases List.mem_append.mp hj with z | z
  · exact hp j z
  · rw [List.mem_singleton.mp z]; exact .inr ⟨rfl, Nat.le_refl _⟩
end Gb

namespace Gb
open PySem PySem.Spec L2
/-! sums, and masks by their bits -/
/-! at the top, counted -/
end Gb

namespace Gb
open PySem PySem.Spec L2
/-! layers on a row of a beam -/
/-! what lacks -/
end Gb

namespace Gb
open PySem PySem.Spec L2
/-! a beam's row: the board beneath, those read upon it -/
def Ly.near2 (L : Ly) : Prop := -1999999999 ≤ L.x ∧ L.x ≤ 1999999999 ∧ -1999999999 ≤ L.y ∧ L.y ≤ 1999999999
theorem Ly.near.two {L : Ly} (h : L.near) : L.near2 := by
  obtain ⟨_, _, h1, h2, h3, h4⟩ := h
  exact ⟨by omega, by omega, by omega, by omega⟩
end Gb

namespace Gb
open PySem PySem.Spec L2
section
variable {C : Ct} {W : WX} {w w' : Wd} {H H' : Hp} {σ σ' : L2.St} {Q : VK} {X : Cx} {ca : Cad} {ρ : List T} {t u : T}
/-! methods of texts -/
def txts : List D → Option (List Str)
  | [] => some []
  | .str s :: ds => (txts ds).map (s :: ·)
  | _ => none
theorem txts_of : ∀ ys : List Str, txts (ys.map D.str) = some ys
  | [] => rfl
  | y :: ys => by rw [List.map_cons]; unfold txts; rw [txts_of ys]; rfl
theorem RDs.txts {A : Addr → Prop} : ∀ {ys : List Str} {vs : List V}, RDs C H A (ys.map D.str) vs → vs = ys.map V.str
  | [], vs, h => h
  | y :: ys, vs, h => by
    obtain ⟨v, r, rfl, h1, h2⟩ := h
    have e : v = .str y := h1
    rw [e, RDs.txts h2]; rfl
def t1k (f : Str → T → DE) (db : DE) : T → List T → ER T
  | .imm _ (.str s), ρ => (db ρ).bind fun y ρ2 => f s y ρ2
  | _, _ => .bad
def dT1 (f : Str → T → DE) (da db : DE) : DE := fun ρ => (da ρ).bind (t1k f db)
def t0k (f : Str → DE) : T → List T → ER T
  | .imm _ (.str s), ρ => f s ρ
  | _, _ => .bad
def dT0 (f : Str → DE) (da : DE) : DE := fun ρ => (da ρ).bind (t0k f)
/-- which method, by what it answers -/
structure MetT1 (X : Cx) (ca : Cad) (W : WX) (name : Str) (id : String) (f : Str → T → DE) : Prop where
  slot : Slot "str" name id
  ty : typeOf (.builtin id) = pure (.type "method_descriptor")
  rule : ∃ R, MtR X id R ∧ ∀ w H σ Q s y ρ u, Stt ⟨X.K, ca⟩ w H (y :: ρ) (some u :: σ) → kE ⟨X.K, ca⟩ W w H σ Q (f s y ρ) → R (.str s) [u] H Q
structure MetT0 (X : Cx) (ca : Cad) (W : WX) (name : Str) (id : String) (f : Str → DE) : Prop where
  slot : Slot "str" name id
  ty : typeOf (.builtin id) = pure (.type "method_descriptor")
  rule : ∃ R, MtR X id R ∧ ∀ w H σ Q s ρ, Stt ⟨X.K, ca⟩ w H ρ σ → kE ⟨X.K, ca⟩ W w H σ Q (f s ρ) → R (.str s) [] H Q
def fSplit (s : Str) : T → DE
  | .imm _ (.str b), ρ => if (b.length == 0) = false ∧ s.length + 2 ≤ 16777216 then .ok (.lstI ((Txt.split s b).map D.str)) ρ else .bad
  | _, _ => .bad
def fJoin (s : Str) : T → DE
  | .imm _ (.lst ds), ρ => (match txts ds with
    | some ys => if (ys.map (·.length)).sum + ys.length * s.length ≤ 16777216 then .ok (.imm false (.str (Txt.join s ys))) ρ else .bad
    | none => .bad)
  | _, _ => .bad
def fIndexT (s : Str) : T → DE
  | .imm _ (.str b), ρ => (match Builtin.Str.occurrences s b 0 s.length 1 with
    | i :: _ => .ok (.imm false (.int (i : Nat))) ρ
    | [] => .bad)
  | _, _ => .bad
def fFindT (s : Str) : T → DE
  | .imm _ (.str b), ρ => .ok (.imm false (.int (Txt.find s b))) ρ
  | _, _ => .bad
def fStarts (s : Str) : T → DE
  | .imm _ (.str b), ρ => .ok (.imm false (.bl (Txt.startswith s b))) ρ
  | _, _ => .bad
def fZfill (s : Str) : T → DE
  | .imm _ (.int i), ρ => if PadOk i = true then .ok (.imm false (.str (Txt.zfill s i))) ρ else .bad
  | _, _ => .bad
/-! ord -/
/-! a sign in a text -/
def gInT : D → D → Option D
  | .str s, .str z => (match s.cps.toList with
    | [c] => some (.bl (decide (c ∈ z.cps.toList)))
    | _ => none)
  | d, e => gIn d e
def gNinT : D → D → Option D
  | .str s, .str z => (match s.cps.toList with
    | [c] => some (.bl (!decide (c ∈ z.cps.toList)))
    | _ => none)
  | d, e => gNin d e
end
end Gb

namespace Gb
open PySem PySem.Spec L2
section
variable {C : Ct} {W : WX} {w w' : Wd} {H H' : Hp} {σ σ' : L2.St} {Q : VK} {X : Cx} {ca : Cad} {ρ : List T} {t u : T}
/-! enumerate(list), zip(list, list) -/
def enD : Nat → List D → List D
  | _, [] => []
  | k, d :: ds => .tup [.int (k : Nat), d] :: enD (k + 1) ds
def zpD (ds es : List D) : List D := List.zipWith (fun d e => D.tup [d, e]) ds es
def enumItems : List T → List T → ER (Bool × List D)
  | [.imm b (.lst ds)], ρ => if ds.length ≤ 16777216 then .ok (b, enD 0 ds) ρ else .bad
  | _, _ => .bad
def diEnum (da : DA) : DI := fun ρ => (da ρ).bind enumItems
def zipItems : List T → List T → ER (Bool × List D)
  | [.imm b (.lst ds), .imm c (.lst es)], ρ => if ds.length ≤ 16777216 then .ok (b || c, zpD ds es) ρ else .bad
  | _, _ => .bad
def diZip (da : DA) : DI := fun ρ => (da ρ).bind zipItems
end
end Gb

namespace Gb
open PySem PySem.Spec L2 PyProof.Rows
/-! own exceptions with an own __init__ that calls its base's -/
def CXn : CXT := fun _ _ _ _ _ _ => False
theorem passn {X : Cx} {E : XK} : Passes CXn X E := fun _ _ _ _ _ _ _ h => h.elim
/-- what the written part says of the base class -/
structure BasC (K : PySem.W.Frag) (mg : Str → Option Value) (G : Addr) (x : Str) : Prop where
  g : mg x = some (.ref G)
  ty : PySem.W.typeIn K (.ref G) = some (.type "type")
  ga : PySem.W.specialIn K (.ref G) "__getattribute__" = some (some (.builtin "type.__getattribute__"))
  rd : PySem.W.readsIn K G (.type "type") = true
  fc : PySem.W.findCls K (.ref G) (.type "type") "__init__" = some (.val (.builtin "ValueError.__init__"))
theorem pe_oinit {X : Cx} {x : Str} {G : Addr} {e : Expr} {es : List Expr} {ta : TA} {p1 p2 pos : Pos} {pl : Sem Bool} (B : BasC X.K X.mg G x) (ha : PA X (e :: es) ta) (hg : Gl X x := by rfl)
    (hdb : (x == ("__debug__" : Str)) = false := by decide)
    (hc : eval (.Call (.Attribute (.Name x p1) "__init__" p2) (e :: es) [] pos) X.env = (do
      let ov ← eval (.Name x p1) X.env
      standAt p2.atName
      let (f, first) ← holding [ov] (getMethod ov "__init__" pl)
      callWith pos f first (backTo pos (starEach (e :: es) X.env)) (backToKw pos (keywordEach [] X.env))) := by rfl)
    (he : starEach (e :: es) X.env = (false, eval e X.env) :: starEach es X.env := by rfl) (hpl : (backTo pos (starEach es X.env)).any (·.1) = false := by rfl) :
    PE X (.Call (.Attribute (.Name x p1) "__init__" p2) (e :: es) [] pos) (tVeI X.K ta) := by
  refine ⟨fun pins s σ H Q I h => ?_⟩
  refine PySem.W.methodCall_KW (ld_glob I hg B.g ?_ hdb) hc
  obtain ⟨m, fr⟩ := I.fr
  refine PySem.W.method_of_cls fr I.ok.mod.kin B.ga (PySem.W.cls_val fr I.ok.mod.kin B.ty B.rd B.fc (by decide +kernel) ?_)
  show wpAny _ _ (callWith pos (Value.builtin "ValueError.__init__") [] (backTo pos (starEach (e :: es) X.env)) []) _ _ _
  refine PyProof.Rows.callWith_method1 (thn (ha.run pos pins _ σ H _ (I.tok _) h) fun us s1 ⟨vs, H1, I1, r1, a, C, ws, ev, hl, T, ea, q⟩ => ?_) he hpl
  subst ev
  cases r1 with
  | @cons _ u0 _ ur ra rw' =>
    obtain rfl : u0 = Value.ref a := ra
    have hlen : ur.length ≤ sizeLine := by
      rw [← Paired.length rw', sizeLine_eq]
      omega
    exact oinit_ok T I1 ea hlen fun s' J => ⟨.non, H1, J, rfl, q⟩
/-- what C's __init__ does: the fields, the last one first -/
def spIni (K : PySem.W.Frag) (C : Addr) (fs : List Str) : Sp := fun us H Q _ => ∃ (a : Addr) (vs : List V), us = .ref a :: vs ∧ vs.length = fs.length ∧ OexC K C ∧ (∀ f ∈ fs, PySem.W.findIn K (.ref C) f = some none) ∧ H a = some (exo a C none) ∧
  ∀ (H' : Hp) (dx : Addr), dx ≠ a → H dx = none → H' a = some (exo a C (some dx)) → H' dx = some (exd dx (fs.zip vs).reverse) → (∀ b, b ≠ a → b ≠ dx → H' b = H b) → Q .non H'
theorem spIni_len {K : PySem.W.Frag} {C : Addr} {fs ps : List Str} (hl : ps.length = fs.length + 1) : ∀ vs H Q E, spIni K C fs vs H Q E → vs.length = ps.length := fun us H Q E h => by
  obtain ⟨a, vs, rfl, h1, _⟩ := h
  rw [List.length_cons, h1, hl]
section
variable {K : PySem.W.Frag} {C : Addr} {H : Hp} {Q : VK} {E : XK} {a : Addr} {y z : V} {f g : Str} {m : Str}
/-- one field -/
theorem ini1 {us : List V} {N : List Str} (hN : N.length = 2) (h : spIni K C [f] us H Q E) {tv tf : TE} {D : Ends} (hD : ∀ σ H', Q .non H' → D.nx σ H')
    {ta : TA} (hta : ∀ (a : Addr) (y : V) (H : Hp) (Q : List V → Hp → Prop), Q [.ref a, .str m] H → ta [some (.ref a), some y] H Q) (htv : ∀ (a : Addr) (y : V) (H : Hp) (Q : VK), Q (.ref a) H → tv [some (.ref a), some y] H Q) (htf : ∀ (a : Addr) (y : V) (H : Hp) (Q : VK), Q y H → tf [some (.ref a), some y] H Q) :
    tSeq (tDrop (tVeI K ta)) (tOst K f tv tf) D (L2.start N us) H := by
  obtain ⟨a, vs, rfl, hl, T, no, ea, q⟩ := h
  match vs, hl with
  | [y], _ =>
    have es : L2.start N [.ref a, y] = [some (.ref a), some y] := by unfold L2.start; rw [hN]; rfl
    rw [es]
    show tVeI K ta [some (.ref a), some y] H fun _ H1 => tOst K f tv tf D [some (.ref a), some y] H1
    refine hta a y H _ ⟨a, C, [.str m], rfl, by simp, T, ea, ?_⟩
    refine htf a y H _ (htv a y H _ ⟨a, C, rfl, T, no f (by simp), .inl ⟨ea, fun dx hdx ne => hD _ _ (q _ dx ne hdx ?_ ?_ ?_)⟩⟩)
    · exact upd_same
    · rw [upd_ne ne, upd_same]; rfl
    · intro b h1 h2
      rw [upd_ne h1, upd_ne h2]
end
/-! raise C(e, ..) -/
def unB : T → Option D
  | .imm b d => bif !b || d.flat then some d else none
  | _ => none
def unBs : List T → Option (List D)
  | [] => some []
  | t :: ts => match unB t, unBs ts with
    | some d, some ds => some (d :: ds)
    | _, _ => none
theorem unBs_rd {C : Ct} {w : Wd} {H : Hp} {ρ : List T} {σ : L2.St} : ∀ {ts : List T} {vs : List V} {ds : List D}, vs.length = ts.length → Stt C w H (ts ++ ρ) (vs.map some ++ σ) → unBs ts = some ds → RDs C H w.I ds vs ∧ Stt C w H ρ σ
  | [], vs, ds, l, S, e => by
    have : vs = [] := List.length_eq_zero_iff.mp (by simpa using l)
    subst this
    cases e
    exact ⟨rfl, S⟩
  | t :: ts, [], ds, l, S, e => by simp at l
  | t :: ts, v :: vs, ds, l, S, e => by
    unfold unBs at e
    cases q0 : unB t with
    | none => rw [q0] at e; cases e
    | some d =>
      cases q : unBs ts with
      | none => rw [q0, q] at e; cases e
      | some es =>
        rw [q0, q] at e
        cases e
        cases t with
        | imm b d' =>
          have q1 : (bif !b || d'.flat then some d' else none) = some d := q0
          cases hb : (!b || d'.flat) with
          | false => rw [hb] at q1; exact absurd q1 (by simp)
          | true =>
            rw [hb] at q1
            obtain rfl : d' = d := by simpa using q1
            have S' : Stt C w H (.imm b d' :: (ts ++ ρ)) (some v :: (vs.map some ++ σ)) := S
            obtain ⟨x, ex, r⟩ := S'.head_imm
            obtain rfl : v = x := Option.some.inj ex
            obtain ⟨r2, S2⟩ := unBs_rd (by simpa using l) S'.drop q
            refine ⟨⟨v, vs, rfl, ?_, r2⟩, S2⟩
            cases b with
            | false => exact RD_mono (fun a z => ⟨z.elim id fun q => absurd q.1 (by simp), rfl⟩) _ _ r
            | true => exact RD.flat (by simpa using hb) r
        | _ => exact absurd q0 (by simp [unB])
def raisk (k : Nat) (ns : List Str) : List T → List T → SR := fun ts ρ => match unBs ts with
  | some ds => if ds.length = ns.length ∧ 0 < ns.length ∧ ns.length ≤ 900 then .exc ⟨k, ns.reverse, ds.reverse⟩ ρ else .bad
  | none => .bad
def dRaiseF (k : Nat) (ns : List Str) (da : DA) : DS := fun ρ => match da ρ with
  | .ok ts ρ' => raisk k ns ts ρ'
  | .exc e ρ' => .exc e ρ'
  | .bad => .bad
structure ExI (P : Program) (wd : World) (K : PySem.W.Frag) (mg : Str → Option Value) (C : Addr) (x : Str) (ns : List Str) : Prop where
  T : OexC K C
  no : ∀ f ∈ ns, PySem.W.findIn K (.ref C) f = some none
  g : mg x = some (.ref C)
  ini : ∃ (fI : Addr) (fd : FuncData) (ps : List Str), PySem.W.findIn K (.ref C) "__init__" = some (some (.ref fI)) ∧ PySem.W.typeIn K (.ref fI) = some (.type "function") ∧ (∀ base : Heap, FnOk P wd K mg base CXn 1 fI fd ps (spIni K C ns)) ∧ Binds K fd ps []
theorem zip_fst : ∀ {ns : List Str} {vs : List V}, vs.length = ns.length → (ns.zip vs).map (·.1) = ns
  | [], [], _ => rfl
  | n :: ns, v :: vs, h => by rw [List.zip_cons_cons, List.map_cons, zip_fst (by simpa using h)]
  | [], _ :: _, h => by simp at h
  | _ :: _, [], h => by simp at h
theorem zip_snd : ∀ {ns : List Str} {vs : List V}, vs.length = ns.length → (ns.zip vs).map (·.2) = vs
  | [], [], _ => rfl
  | n :: ns, v :: vs, h => by rw [List.zip_cons_cons, List.map_cons, zip_snd (by simpa using h)]
  | [], _ :: _, h => by simp at h
  | _ :: _, [], h => by simp at h
theorem ss_raiseF {X : Cx} {ca : Cad} {W : WX} {pn : List Nat} {x : Str} {k : Nat} {ns : List Str} {e : Expr} {es : List Expr} {da : DA} {p pos pos2 : Pos} (F : ExI X.prog X.w X.K X.mg (ca k) x ns) (tk : Takes X W) {lv : Nat} (hr : RoomG lv X.A) (ha : SA X ca W (e :: es) da) (hlv : 2 ≤ lv := by omega)
    (hc : X.calm = true := by rfl) (hg : Gl X x := by rfl) (hdb : (x == ("__debug__" : Str)) = false := by decide) (he : starEach (e :: es) X.env = (false, eval e X.env) :: starEach es X.env := by rfl) (hpl : (backTo pos (starEach es X.env)).any (·.1) = false := by rfl) :
    SS X ca W pn (.Raise (some (.Call (.Name x p) (e :: es) [] pos)) none pos2) (dRaiseF k ns da) := by
  obtain ⟨fI, fd, ps, iC, tI, F1, hb⟩ := F.ini
  refine ⟨PS.imp (ps_raise hc tk (pmk_oex F.T iC tI (F1 X.base) (hr.r.mono hlv) hb .nil passn hg F.g ha.pa hdb he hpl)) fun D σ H h => ?_⟩
  obtain ⟨w, ρ, S, kk⟩ := h
  refine ⟨w, ρ, S, ?_⟩
  unfold dRaiseF at kk
  cases ea : da ρ with
  | bad => rw [ea] at kk; exact kk.elim
  | exc x1 ρ1 =>
    rw [ea] at kk
    exact fun w1 H1 cls dx A1 S1 x1 => kk w1 H1 σ cls dx A1 S1 .refl x1
  | ok ts ρ1 =>
    rw [ea] at kk
    intro w1 H1 vs hl A1 S1
    replace kk : kS ⟨X.K, ca⟩ W pn w1 H1 σ D (raisk k ns ts ρ1) := kS.after A1 .refl kk
    unfold raisk at kk
    split at kk
    · rename_i ds hds
      split at kk
      · rename_i hn
        obtain ⟨rd, S2⟩ := unBs_rd hl S1 hds
        have hvn : vs.length = ns.length := by rw [← rd.length]; exact hn.1
        refine ⟨by omega, fun a hA => ?_⟩
        rw [List.append_nil]
        refine ⟨a, vs, rfl, hvn, F.T, F.no, upd_same, fun H' dx ne hdx h1 h2 h3 => ⟨rfl, dx, (ns.zip vs).reverse, h1, h2, ?_, ?_⟩⟩
        · rw [upd_ne ne] at hdx; exact hdx
        · rw [upd_ne ne] at hdx
          have eH : upd (del H' a) dx (.xd (ns.zip vs).reverse) = upd H1 dx (.xd (ns.zip vs).reverse) := by
            funext b
            by_cases hb1 : b = dx
            · rw [hb1, upd_same, upd_same]
            · rw [upd_ne hb1, upd_ne hb1]
              by_cases hb2 : b = a
              · rw [hb2, del_same, hA]
              · rw [del_ne hb2, h3 b hb2 hb1, upd_ne hb2]
          rw [eH]
          have n := S2.newI (o := .xd (ns.zip vs).reverse) hdx
          refine kk _ _ σ _ _ n.1 n.2 .refl ⟨rfl, .inr ⟨dx, _, rfl, ?_, .inr rfl, upd_same, ?_, ?_⟩⟩
          · exact fun z => absurd (List.reverse_eq_nil_iff.mp z) (List.ne_nil_of_length_pos hn.2.1)
          · rw [List.map_reverse, zip_fst hvn]
          · rw [List.map_reverse, zip_snd hvn]
            exact (RDs_mono (fun b z => ⟨.inl z, n.1.keep b (.inl z)⟩) _ _ rd).reverse
      · exact kk.elim
    · exact kk.elim
end Gb

namespace Gb
open PySem PySem.Spec L2
section
variable {α β : Type} {a : α} {ρ : List T} {x : Ex} {da db dc de : DE} {dr : DA} {c d e : D} {b b1 b2 b3 : Bool} {i j : Int} {n k : Nat} {ds es : List D} {t u : T} {ts : List T} {s z f g : Str}
theorem v_dT1 {h : Str → T → DE} : dT1 h da db ρ = bnd (da ρ) (t1k h db) := rfl
theorem v_t1k {h : Str → T → DE} : t1k h db (.imm b (.str s)) ρ = bnd (db ρ) (h s) := rfl
theorem v_dT0 {h : Str → DE} : dT0 h da ρ = bnd (da ρ) (t0k h) := rfl
theorem v_t0k {h : Str → DE} : t0k h (.imm b (.str s)) ρ = h s ρ := rfl
theorem v_fSplit (h1 : (z.length == 0) = false) (h2 : s.length + 2 ≤ 16777216) : fSplit s (.imm b (.str z)) ρ = .ok (.lstI ((Txt.split s z).map D.str)) ρ := if_pos ⟨h1, h2⟩
theorem v_fFindT : fFindT s (.imm b (.str z)) ρ = .ok (.imm false (.int (Txt.find s z))) ρ := rfl
theorem v_fStarts : fStarts s (.imm b (.str z)) ρ = .ok (.imm false (.bl (Txt.startswith s z))) ρ := rfl
theorem fJoin_ok {ys : List Str} (h : (ys.map (·.length)).sum + ys.length * s.length ≤ 16777216) : fJoin s (.imm b (.lst (ys.map D.str))) ρ = .ok (.imm false (.str (Txt.join s ys))) ρ := by
  unfold fJoin
  simp only [txts_of]
  exact if_pos h
theorem v_iEnum : diEnum dr ρ = bnd (dr ρ) enumItems := rfl
theorem v_enumItems (h : ds.length ≤ 16777216) : enumItems [.imm b (.lst ds)] ρ = .ok (b, enD 0 ds) ρ := if_pos h
theorem v_iZip : diZip dr ρ = bnd (dr ρ) zipItems := rfl
theorem v_zipItems (h : ds.length ≤ 16777216) : zipItems [.imm b1 (.lst ds), .imm b2 (.lst es)] ρ = .ok (b1 || b2, zpD ds es) ρ := if_pos h
def raisx (k : Nat) (ns : List Str) : ER (List T) → SR
  | .ok ts ρ' => raisk k ns ts ρ'
  | .exc e ρ' => .exc e ρ'
  | .bad => .bad
theorem v_RaiseF {ns : List Str} : dRaiseF k ns dr ρ = raisx k ns (dr ρ) := by
  unfold dRaiseF raisx
  cases dr ρ <;> rfl
theorem v_raisx {ns : List Str} : raisx k ns (.ok ts ρ) = raisk k ns ts ρ := rfl
theorem v_raisk1 : raisk k [f] [.imm false d] ρ = .exc ⟨k, [f], [d]⟩ ρ := rfl
theorem v_raisk1_int : raisk k [f] [.imm b (.int i)] ρ = .exc ⟨k, [f], [.int i]⟩ ρ := by cases b <;> rfl
theorem v_raisk1_non : raisk k [f] [.imm b .non] ρ = .exc ⟨k, [f], [.non]⟩ ρ := by cases b <;> rfl
theorem v_raisk2 : raisk k [f, g] [.imm false d, .imm false e] ρ = .exc ⟨k, [g, f], [e, d]⟩ ρ := rfl
theorem v_isT2n {j k : Nat} {r : Option Bool} (h : n ≠ k) : isT2 n j k r = r := if_neg h
theorem xfk_of {a dd m : Nat} {ns : List Str} {vs us : List D} {ok : Nat → Bool} (h : ok m = true) (hn : ns ≠ []) (e : lookF f ns us = some d) : xfk a dd ⟨m, ns, vs⟩ f ok ρ (some (.imm false (.exn a dd ns us))) = .ok (.imm false d) ρ := by
  show (if false = false ∧ a = a ∧ dd = dd ∧ ns = ns ∧ ns ≠ [] ∧ ok m = true then (match lookF f ns us with | some d => ER.ok (T.imm false d) ρ | none => ER.bad) else ER.bad) = _
  rw [if_pos ⟨rfl, rfl, rfl, rfl, hn, h⟩, e]
theorem v_xfk1 {a dd m : Nat} {vs : List D} {ok : Nat → Bool} (h : ok m = true) : xfk a dd ⟨m, [f], vs⟩ f ok ρ (some (.imm false (.exn a dd [f] [d]))) = .ok (.imm false d) ρ := xfk_of h (by simp) (if_pos rfl)
theorem v_xfk2a {a dd m : Nat} {vs : List D} {ok : Nat → Bool} (h : ok m = true) : xfk a dd ⟨m, [f, g], vs⟩ f ok ρ (some (.imm false (.exn a dd [f, g] [d, e]))) = .ok (.imm false d) ρ := xfk_of h (by simp) (if_pos rfl)
theorem v_xfk2b {a dd m : Nat} {vs : List D} {ok : Nat → Bool} (h : ok m = true) (h2 : ¬ f = g) : xfk a dd ⟨m, [f, g], vs⟩ g ok ρ (some (.imm false (.exn a dd [f, g] [d, e]))) = .ok (.imm false e) ρ := xfk_of h (by simp) ((if_neg h2).trans (if_pos rfl))
theorem v_inT_str {y : Nat} : gInT (.str ⟨#[y]⟩) (.str z) = some (.bl (decide (y ∈ z.cps.toList))) := rfl
theorem v_ninT_str {y : Nat} : gNinT (.str ⟨#[y]⟩) (.str z) = some (.bl (!decide (y ∈ z.cps.toList))) := rfl
theorem v_inT_non : gInT .non e = gIn .non e := rfl
theorem v_inT_int : gInT (.int i) e = gIn (.int i) e := rfl
theorem v_inT_bl : gInT (.bl b) e = gIn (.bl b) e := rfl
theorem v_inT_lst : gInT d (.lst ds) = gIn d (.lst ds) := by cases d <;> rfl
theorem v_ninT_non : gNinT .non e = gNin .non e := rfl
theorem v_ninT_int : gNinT (.int i) e = gNin (.int i) e := rfl
theorem v_ninT_bl : gNinT (.bl b) e = gNin (.bl b) e := rfl
theorem v_ninT_lst : gNinT d (.lst ds) = gNin d (.lst ds) := by cases d <;> rfl
end
end Gb

namespace Gb
open PySem PySem.Spec L2
/-! what can be shown: ints of up to seventy figures, texts -/
end Gb

namespace Gb
open PySem PySem.Spec L2
/-- a loop that an exception leaves at the j-th item -/
theorem forL_exc {dg : DG} {body : DS} {b : Bool} {P : Nat → List T → Prop} {e : Ex} : ∀ (ds : List D) (k j : Nat) (ρ : List T), P k ρ → (∀ (i : Nat) (d : D) (ρ : List T), i < j → ds[i]? = some d → P (k + i) ρ → Goes dg body b d ρ (P (k + i + 1))) →
    j < ds.length → (∀ (d : D) (ρ : List T), ds[j]? = some d → P (k + j) ρ → ∃ ρ1 ρ2, dg (.imm b d) ρ = some ρ1 ∧ body ρ1 = .exc e ρ2) → ∃ ρ2, forL dg body b ds ρ = .exc e ρ2
  | [], k, j, ρ, _, _, hj, _ => by simp at hj
  | d :: ds, k, 0, ρ, h, _, _, he => by
    obtain ⟨ρ1, ρ2, e1, e2⟩ := he d ρ rfl h
    refine ⟨ρ2, ?_⟩
    unfold forL
    simp only [e1, e2]
  | d :: ds, k, j + 1, ρ, h, hs, hj, he => by
    obtain ⟨ρ1, ρ2, e1, e2, h2⟩ := hs 0 d ρ (by omega) rfl h
    obtain ⟨ρ3, e3⟩ := forL_exc ds (k + 1) j ρ2 h2 (fun i d ρ hi hd hp => by
      have q := hs (i + 1) d ρ (by omega) (by simpa using hd) (by rw [show k + (i + 1) = k + 1 + i by omega]; exact hp)
      rw [show k + (i + 1) + 1 = k + 1 + i + 1 by omega] at q
      exact q) (by simpa using hj) fun d ρ hd hp => he d ρ (by simpa using hd) (by rw [show k + (j + 1) = k + 1 + j by omega]; exact hp)
    refine ⟨ρ3, ?_⟩
    unfold forL
    simp only [e1]
    rcases e2 with e2 | e2
    · simp only [e2, e3]
    · simp only [e2, e3]
end Gb

namespace Gb
open PySem PySem.Spec L2
section
variable {C : Ct} {W : WX} {pn ch : List Nat} {w w' : Wd} {H H' : Hp} {σ σ' : L2.St} {En : Ends} {X : Cx} {ca : Cad} {ρ : List T} {t u : T} {v x : Option V}
end
end Gb

namespace Gb
open PySem PySem.Spec L2
theorem eqv_nil_nil : D.eqv (.lst []) (.lst []) = some true := eqv_self (n := 1) (d := .lst []) rfl (by decide)
end Gb

namespace Gb
open PySem PySem.Spec L2
open SX (S S_len S_cat S_inj)
/-! texts by their signs -/
def txD (l : List Nat) : D := .str (S l)
def sgD (c : Nat) : D := .str (S [c])
def sp (c : Nat) : List Nat → List (List Nat)
  | [] => [[]]
  | d :: r => if d = c then [] :: sp c r else match sp c r with
    | [] => [[d]]
    | w :: ws => (d :: w) :: ws
theorem sp_ne (c : Nat) : ∀ l, sp c l ≠ []
  | [] => by simp [sp]
  | d :: r => by
    unfold sp
    split
    · simp
    · split <;> simp
theorem spl_sp (c : Nat) : ∀ (l acc : List Nat), TL.spl [c] 0 acc l = (match sp c l with | [] => [acc] | w :: ws => (acc ++ w) :: ws)
  | [], acc => by simp [TL.spl, sp]
  | d :: r, acc => by
    have hp : TL.pre [c] (d :: r) = decide (d = c) := by
      show ((d :: r).take 1 == [c]) = _
      simp [List.take]
      by_cases h : d = c <;> simp [h]
    unfold TL.spl sp
    rw [hp]
    by_cases h : d = c
    · rw [if_pos (by simpa using h), if_pos h]
      show acc :: TL.spl [c] 0 [] r = (acc ++ []) :: sp c r
      rw [spl_sp c r [], List.append_nil]
      cases e : sp c r with
      | nil => exact absurd e (sp_ne c r)
      | cons w ws => simp
    · rw [if_neg (by simpa using h), if_neg h, spl_sp c r (acc ++ [d])]
      cases e : sp c r with
      | nil => exact absurd e (sp_ne c r)
      | cons w ws => simp
theorem split_sp (c : Nat) (hc : c < 256) (a : List Nat) : Txt.split (S a) (S [c]) = (sp c a).map S := by
  rw [SX.split_S (by simp) (by simp [hc]), spl_sp c a []]
  cases e : sp c a with
  | nil => exact absurd e (sp_ne c a)
  | cons w ws => simp
theorem joinL_nil : ∀ ws : List (List Nat), TL.joinL [] ws = ws.flatten
  | [] => rfl
  | [w] => by show w = _; simp
  | w :: v :: ws => by
    show w ++ ([] ++ TL.joinL [] (v :: ws)) = _
    rw [joinL_nil (v :: ws)]
    simp
theorem flat_sg : ∀ l : List Nat, (l.map fun c => [c]).flatten = l
  | [] => rfl
  | c :: l => by rw [List.map_cons, List.flatten_cons, flat_sg l]; rfl
theorem strD_S (l : List Nat) : strD (S l) = l.map sgD := rfl
theorem cutS_S (a : List Nat) (lo hi : Option Int) : cutS (S a) lo hi = S (cutD a lo hi) := by
  unfold cutS cutD
  simp only [S_len]
section
variable {α β : Type} {ρ : List T} {da db dc de : DE} {d e : D} {b b1 b2 b3 : Bool} {i j : Int} {n k c : Nat} {ds es : List D} {t u : T} {ts : List T} {a x y : List Nat}
theorem v_S_eq : (S a = S x) = (a = x) := propext ⟨fun h => S_inj h, fun h => by rw [h]⟩
theorem v_add_S (h : a.length + x.length ≤ 16777216) : fAdd (.imm b1 (.str (S a))) (.imm b2 (.str (S x))) ρ = .ok (.imm false (.str (S (a ++ x)))) ρ := by
  rw [v_add_str (by rw [S_len, S_len]; exact h), S_cat]
theorem v_eq_S : gEq (.str (S a)) (.str (S x)) = some (.bl (decide (a = x))) := by
  rw [v_eq_str]
  congr 2
  by_cases h : a = x
  · rw [h]; simp
  · rw [decide_eq_false h, decide_eq_false fun z => h (S_inj z)]
theorem v_ne_S : gNe (.str (S a)) (.str (S x)) = some (.bl (!decide (a = x))) := by
  rw [v_ne_str]
  congr 3
  by_cases h : a = x
  · rw [h]; simp
  · rw [decide_eq_false h, decide_eq_false fun z => h (S_inj z)]
theorem v_items_S (h : a.length ≤ 16777216) : itemsOf (.imm b (.str (S a))) ρ = .ok (false, a.map sgD) ρ := by
  show (if (S a).length ≤ sizeLine then ER.ok (false, strD (S a)) ρ else .bad) = _
  rw [if_pos (by rw [S_len]; exact h), strD_S]
theorem v_gIx_S (h : a.length ≤ 16777216) : gIx b (.str (S a)) i = (L2.atI a i).map fun c => T.imm false (sgD c) := by
  show (if (S a).length ≤ sizeLine then (L2.atI (S a).cps.toList i).map fun c => T.imm false (.str ⟨#[c]⟩) else none) = _
  rw [if_pos (by rw [S_len]; exact h)]
  rfl
theorem v_fSl_S {lo hi : Option Int} (h : a.length ≤ 16777216) : fSl (.imm b (.str (S a))) lo hi ρ = .ok (.imm false (.str (S (cutD a lo hi)))) ρ := by
  have e : fSl (.imm b (.str (S a))) lo hi ρ = (if (S a).length ≤ sizeLine then .ok (.imm false (.str (cutS (S a) lo hi))) ρ else .bad) := by cases b <;> rfl
  rw [e, if_pos (by rw [S_len]; exact h), cutS_S]
theorem v_len_S (h : a.length ≤ 16777216) : D.len? (.str (S a)) = some a.length := by
  show (if (S a).length ≤ sizeLine then some (S a).length else none) = _
  rw [if_pos (by rw [S_len]; exact h), S_len]
theorem v_fSplit_S (h1 : c < 256) (h2 : a.length ≤ 16777000) : fSplit (S a) (.imm b (.str (S [c]))) ρ = .ok (.lstI ((sp c a).map txD)) ρ := by
  rw [v_fSplit (by rw [S_len]; rfl) (by rw [S_len]; omega), split_sp c h1, List.map_map]
  rfl
theorem fJoin_S {ws : List (List Nat)} (h : (ws.map (·.length)).sum + ws.length * a.length ≤ 16777216) : fJoin (S a) (.imm b (.lst (ws.map txD))) ρ = .ok (.imm false (.str (S (TL.joinL a ws)))) ρ := by
  have e : ws.map txD = (ws.map S).map D.str := by rw [List.map_map]; rfl
  rw [e, fJoin_ok (by rw [SX.lens, List.length_map, S_len]; exact h), SX.join_S]
theorem sum_ones : ∀ l : List Nat, ((l.map fun c => [c]).map (·.length)).sum = l.length
  | [] => rfl
  | c :: l => by
    have ih := sum_ones l
    simp only [List.map_cons, List.sum_cons, List.length_cons, List.length_nil] at ih ⊢
    omega
/-- signs joined by nothing -/
theorem v_fJoin_sg (h : a.length ≤ 16777216) : fJoin (S []) (.imm b (.lst (a.map sgD))) ρ = .ok (.imm false (.str (S a))) ρ := by
  have e : a.map sgD = (a.map fun c => [c]).map txD := by rw [List.map_map]; rfl
  rw [e, fJoin_S (by rw [sum_ones, List.length_map]; simp; omega), joinL_nil, flat_sg]
theorem v_inT_S : gInT (sgD c) (.str (S a)) = some (.bl (decide (c ∈ a))) := rfl
theorem v_ninT_S : gNinT (sgD c) (.str (S a)) = some (.bl (!decide (c ∈ a))) := rfl
end
/-- four figures -/
def fig4 (n : Nat) : List Nat := [48 + n / 1000 % 10, 48 + n / 100 % 10, 48 + n / 10 % 10, 48 + n % 10]
theorem zfill4 {l : List Nat} (hl : l.length ≤ 4) (hd : ∀ c, l[0]? = some c → c ≠ 43 ∧ c ≠ 45) : Txt.zfill (S l) 4 = S (List.replicate (4 - l.length) 48 ++ l) := by
  unfold Txt.zfill
  by_cases h : (4 : Int) ≤ ((S l).length : Int)
  · rw [if_pos h]
    rw [S_len] at h
    rw [show 4 - l.length = 0 by omega]; rfl
  · rw [if_neg h]
    have e : (S l).cps[0]? = l[0]? := by simp
    unfold zfilled
    rw [e]
    have ep : Builtin.Str.padded (S l) ((4 : Int).toNat - (S l).length) 0 48 = S (List.replicate (4 - l.length) 48 ++ l) := by
      rw [S_len]
      unfold Builtin.Str.padded
      show (⟨_⟩ : Str) = ⟨_⟩
      congr 1
      apply Array.toList_inj.mp
      simp
    cases hc : l[0]? with
    | none => exact ep
    | some c =>
      have := hd c hc
      split
      · rename_i h1; cases h1; exact absurd rfl this.1
      · rename_i h1; cases h1; exact absurd rfl this.2
      · exact ep
theorem num_fig4 {n : Nat} (h : n < 10000) : List.replicate (4 - (TL.numL n).length) 48 ++ TL.numL n = fig4 n := by
  unfold fig4
  by_cases h1 : n < 10
  · rw [TL.numL_lt h1, show n / 1000 = 0 by omega, show n / 100 = 0 by omega, show n / 10 = 0 by omega, Nat.mod_eq_of_lt h1]; rfl
  · by_cases h2 : n < 100
    · rw [TL.numL_step (by omega), TL.numL_lt (n := n / 10) (by omega), show n / 1000 = 0 by omega, show n / 100 = 0 by omega, Nat.mod_eq_of_lt (show n / 10 < 10 by omega)]; rfl
    · by_cases h3 : n < 1000
      · rw [TL.numL_step (by omega), TL.numL_step (n := n / 10) (by omega), TL.numL_lt (n := n / 10 / 10) (by omega), show n / 1000 = 0 by omega, show n / 10 / 10 = n / 100 by omega, Nat.mod_eq_of_lt (show n / 100 < 10 by omega)]; rfl
      · rw [TL.numL_step (by omega), TL.numL_step (n := n / 10) (by omega), TL.numL_step (n := n / 10 / 10) (by omega), TL.numL_lt (n := n / 10 / 10 / 10) (by omega), show n / 10 / 10 / 10 = n / 1000 by omega, show n / 10 / 10 = n / 100 by omega, Nat.mod_eq_of_lt (show n / 1000 < 10 by omega)]; rfl
theorem numL_len4 {n : Nat} (h : n < 10000) : (TL.numL n).length ≤ 4 := TL.numL_len (k := 4) (by omega) (by omega)
theorem zfill_num {n : Nat} (h : n < 10000) : Txt.zfill (S (TL.numL n)) 4 = S (fig4 n) := by
  rw [zfill4 (numL_len4 h) fun c hc => ?_, num_fig4 h]
  have := TL.numL_digits n c (List.mem_of_getElem? hc)
  omega
theorem v_zfill (n : Nat) (h : n < 10000) (b : Bool) (ρ : List T) : fZfill (S (TL.numL n)) (.imm b (.int 4)) ρ = .ok (.imm false (.str (S (fig4 n)))) ρ := by
  show (if PadOk 4 = true then ER.ok (T.imm false (.str (Txt.zfill (S (TL.numL n)) 4))) ρ else .bad) = _
  rw [if_pos (by decide +kernel), zfill_num h]
def isDig (c : Nat) : Bool := decide (48 ≤ c) && decide (c ≤ 57)
/-- the sixteen signs -/
def sg16 : List Nat := [48, 49, 50, 51, 52, 53, 54, 55, 56, 57, 97, 98, 99, 100, 101, 102]
def fg10 : List Nat := [48, 49, 50, 51, 52, 53, 54, 55, 56, 57]
def sg (i : Nat) : Nat := (sg16[i]?).getD 0
def ix16 (c : Nat) : Nat := if c ≤ 57 then c - 48 else c - 87
theorem sg_ix {c : Nat} (h : c ∈ sg16) : sg (ix16 c) = c ∧ ix16 c < 16 := by
  simp only [sg16, List.mem_cons, List.not_mem_nil, or_false] at h
  rcases h with rfl | rfl | rfl | rfl | rfl | rfl | rfl | rfl | rfl | rfl | rfl | rfl | rfl | rfl | rfl | rfl <;> decide
theorem occ16 : ∀ i : Fin 16, Builtin.Str.occurrences (S sg16) (S [sg i]) 0 (S sg16).length 1 = [i.val] := by decide +kernel
theorem v_index16 {c : Nat} (h : c ∈ sg16) (b : Bool) (ρ : List T) : fIndexT (S sg16) (.imm b (sgD c)) ρ = .ok (.imm false (.int (ix16 c : Nat))) ρ := by
  obtain ⟨e, hi⟩ := sg_ix h
  have o := occ16 ⟨ix16 c, hi⟩
  simp only [e] at o
  show (match Builtin.Str.occurrences (S sg16) (S [c]) 0 (S sg16).length 1 with
    | i :: _ => ER.ok (T.imm false (.int (i : Nat))) ρ
    | [] => .bad) = _
  rw [o]
theorem occ10 : ∀ i : Fin 10, Builtin.Str.occurrences (S fg10) (S [48 + i.val]) 0 (S fg10).length 1 = [i.val] := by decide +kernel
theorem v_index10 {c : Nat} (h : isDig c = true) (b : Bool) (ρ : List T) : fIndexT (S fg10) (.imm b (sgD c)) ρ = .ok (.imm false (.int (c - 48 : Nat))) ρ := by
  unfold isDig at h
  rw [Bool.and_eq_true, decide_eq_true_eq, decide_eq_true_eq] at h
  have o := occ10 ⟨c - 48, by omega⟩
  simp only [show 48 + (c - 48) = c by omega] at o
  show (match Builtin.Str.occurrences (S fg10) (S [c]) 0 (S fg10).length 1 with
    | i :: _ => ER.ok (T.imm false (.int (i : Nat))) ρ
    | [] => .bad) = _
  rw [o]
end Gb

namespace Gb
open PySem PySem.Spec L2
section
variable {C : Ct} {W : WX} {w w' : Wd} {H H' : Hp} {σ σ' : L2.St} {Q : VK} {X : Cx} {ca : Cad} {ρ : List T} {t u : T}
/-! list.index of plain data -/
def idxL (d e : D) : Option Nat := match d.py, e.py with
  | some (.list qs), some p => if SeqAt.shaped (.list qs) && SeqAt.shaped p then qs.findIdx? (fun z => PyData.eqv z p) else none
  | _, _ => none
def lxk2 (d : D) : T → List T → ER T
  | .imm _ e, ρ => (match idxL d e with
    | some j => .ok (.imm false (.int (j : Nat))) ρ
    | none => .bad)
  | _, _ => .bad
def lxk (db : DE) : T → List T → ER T
  | .imm _ (.lst ds), ρ => (db ρ).bind (lxk2 (.lst ds))
  | _, _ => .bad
def dLIdx (da db : DE) : DE := fun ρ => (da ρ).bind (lxk db)
theorem v_LIdx {da db : DE} {ρ : List T} : dLIdx da db ρ = bnd (da ρ) (lxk db) := rfl
theorem v_lxk {db : DE} {ρ : List T} {b : Bool} {ds : List D} : lxk db (.imm b (.lst ds)) ρ = bnd (db ρ) (lxk2 (.lst ds)) := rfl
theorem v_lxk2 {ρ : List T} {b : Bool} {d e : D} {j : Nat} (h : idxL d e = some j) : lxk2 d (.imm b e) ρ = .ok (.imm false (.int (j : Nat))) ρ := by
  unfold lxk2
  simp only [h]
end
end Gb

namespace Gb
open PySem PySem.Spec L2
open Sem (wp)
open AutoSeq1 (wpAny_loadPart')
/-! enumerate(zip(list, list)): zip's pairs stay with it as held or go, both are covered -/
abbrev IsZipS (h : Heap) (z TI TO : Addr) (f0 : Value) (fl : Bool) : Prop :=
  h.get? z = some { cls := .type "zip", dict := none, data := .fields #[f0, .bool fl, .bool false, .ref TI, .ref TO], slots := #[] }
def FZ (f0 : Value) (fl : Bool) : Prop := (f0 = .none ∧ fl = false) ∨ ∃ T : Nat, f0 = rawInt T
section
variable {prog : Program} {w : World} {A : Around} {E : Value → Shared → Prop} {s : Shared}
/-- the states of the two iterators -/
structure EZ (h : Heap) (e z TI TO i1 i2 l1 l2 : Addr) (i : Nat) : Prop where
  enum : ∃ old, IsEnum h e z ((i : Nat) : Int) old
  zip : ∃ f0 fl, FZ f0 fl ∧ IsZipS h z TI TO f0 fl
  ti : IsPair h TI (.ref i1) (.ref i2)
  to : ∃ a b, IsPair h TO a b
  it1 : h.IsListIter i1 l1 i
  it2 : h.IsListIter i2 l2 i
structure EApart (e z TI TO i1 i2 l1 l2 : Addr) : Prop where
  D : ZipApart z TI TO i1 i2 l1 l2
  ez : e ≠ z
  eTI : e ≠ TI
  eTO : e ≠ TO
  e1 : e ≠ i1
  e2 : e ≠ i2
  el1 : e ≠ l1
  el2 : e ≠ l2
end
end Gb

namespace Gb
open PySem PySem.Spec PyProof.Rows L2
open Sem (wp)
section
variable {prog : Program} {w : World} {A : Around} {E : Value → Shared → Prop} {s : Shared}
end
section
variable {C : Ct} {W : WX} {w w' : Wd} {H H' : Hp} {σ σ' : L2.St} {Q : VK} {X : Cx} {ca : Cad} {ρ : List T} {t u : T}
def enumZItems : List T → List T → ER (Bool × List D)
  | [.imm b (.lst ds), .imm c (.lst es)], ρ => if ds.length ≤ 16777216 then .ok (b || c, enD 0 (zpD ds es)) ρ else .bad
  | _, _ => .bad
def diEnumZ (da : DA) : DI := fun ρ => (da ρ).bind enumZItems
theorem v_iEnumZ {da : DA} {ρ : List T} : diEnumZ da ρ = bnd (da ρ) enumZItems := rfl
theorem v_enumZItems {b c : Bool} {ds es : List D} {ρ : List T} (h : ds.length ≤ 16777216) : enumZItems [.imm b (.lst ds), .imm c (.lst es)] ρ = .ok (b || c, enD 0 (zpD ds es)) ρ := if_pos h
end
end Gb

namespace Gb
open PySem PySem.Spec L2
section
variable {C : Ct} {W : WX} {pn ch : List Nat} {w w' : Wd} {H H' : Hp} {σ σ' : L2.St} {En : Ends} {X : Cx} {ca : Cad} {ρ : List T} {t u : T} {v x : Option V}
/-! try .. except X: (without a name) -/
def noExc : SR → SR
  | .exc _ _ => .bad
  | q => q
def dTry0 (r : Nat → Option Bool) (db ds : DS) : DS := fun ρ => match db ρ with
  | .exc e ρ1 => (match r e.c with
    | some true => noExc (ds ρ1)
    | some false => .exc e ρ1
    | none => .bad)
  | q => q
def tryk0 (r : Nat → Option Bool) (ds : DS) (q : SR) : SR := dTry0 r (fun _ => q) ds []
variable {r : Nat → Option Bool} {s1 s2 : DS} {e : Ex}
theorem v_Try0 : dTry0 r s1 s2 ρ = tryk0 r s2 (s1 ρ) := rfl
theorem v_tryk0 : tryk0 r s2 (.next ρ) = .next ρ := rfl
theorem v_tryk0_ret : tryk0 r s2 (.ret t ρ) = .ret t ρ := rfl
def tryq0 (s2 : DS) (e : Ex) (ρ : List T) : Option Bool → SR
  | some true => noExc (s2 ρ)
  | some false => .exc e ρ
  | none => .bad
theorem v_tryk0_exc : tryk0 r s2 (.exc e ρ) = tryq0 s2 e ρ (r e.c) := rfl
theorem v_tryq0_t : tryq0 s2 e ρ (some true) = noExc (s2 ρ) := rfl
theorem v_tryq0_f : tryq0 s2 e ρ (some false) = .exc e ρ := rfl
theorem v_noExc_next : noExc (.next ρ) = .next ρ := rfl
theorem v_noExc_ret : noExc (.ret t ρ) = .ret t ρ := rfl
theorem v_noExc_brk : noExc (.brk ρ) = .brk ρ := rfl
theorem v_noExc_cont : noExc (.cont ρ) = .cont ρ := rfl
end
end Gb

namespace Gb
open PySem PySem.Spec PyProof.Rows L2
/-! classes: C(..), o.m(..), o.f, self.f = .. (things that stand as they are once they are made) -/
section
variable {X : Cx} {CX : CXT} {k : Nat} {f C : Addr} {fd : FuncData} {ps : List Str} {sp : Sp} {dvs : List V} {ds : List Value} {E : L2.St → XK} {x m : Str} {p pos apos : Pos} {e o : Expr} {es : List Expr} {ta : TE} {t : TA}
end
section
variable {C : Ct} {W : WX} {w w' : Wd} {H H' : Hp} {σ σ' : L2.St} {Q : VK} {X : Cx} {ca : Cad} {ρ : List T} {t u : T} {v0 : Option V} {pn : List Nat}
/-! the state -/
theorem Stt.take1 {n : Nat} (h : Stt C w H (t :: ρ) (v0 :: σ)) : Stt C w H (t :: ρ.take n) (v0 :: σ.take n) := by
  have l := h.len
  obtain ⟨F, ⟨v0', r0, f1, f2, e, h1, h3, rfl⟩, nd, out, tr, tb⟩ := h
  injection e with e1 e2
  subst e1; subst e2
  have l2 : ρ.length = σ.length := by simpa using l
  rw [← List.take_append_drop n ρ] at h3
  obtain ⟨v1, v2, g1, g2, ev, rfl, k1, k2⟩ := h3.split
  have lk := k1.length
  have ev1 : v1 = σ.take n := by
    have : v1 = (v1 ++ v2).take v1.length := by simp
    rw [this, ← ev, ← lk, List.length_take]
    by_cases hn : n ≤ ρ.length
    · rw [Nat.min_eq_left hn]
    · rw [Nat.min_eq_right (by omega), l2, List.take_length, List.take_of_length_le (by omega)]
  subst ev1
  refine ⟨f1 ++ g1, ⟨_, _, f1, g1, rfl, h1, k1, rfl⟩, ?_, fun a ha => out a ?_, tr, tb⟩
  · rw [← List.append_assoc] at nd
    exact (List.nodup_append.mp nd).1
  · rw [← List.append_assoc]
    exact List.mem_append_left _ ha
end
end Gb

namespace Gb
open PySem PySem.Spec L2
open PyProof.Rows (envOfC)
section
variable {C : Ct} {W : WX} {w w' : Wd} {H H' : Hp} {σ σ' : L2.St} {Q : VK} {X : Cx} {ca : Cad} {ρ : List T} {t u : T} {pn : List Nat}
/-! classes, the rules -/
def fldk (f : Str) (ok : Nat → Bool) : T → DE
  | .imm b (.obj c ns ds) => fun ρ => if ok c = true then (match lookF f ns ds with
    | some d => .ok (.imm b d) ρ
    | none => .bad) else .bad
  | _ => fun _ => .bad
def dFld (de : DE) (f : Str) (ok : Nat → Bool) : DE := d1 (fldk f ok) de
/-! self.f = e -/
/-! defs that change what they are given -/
variable {P : Program} {wd : World} {K : PySem.W.Frag} {mg : Str → Option Value} {base : Heap}
/-! C(..) -/
structure MkC (P : Program) (wd : World) (K : PySem.W.Frag) (mg : Str → Option Value) (base : Heap) (ca : Cad) (k : Nat) (x : Str) (c : Nat) (ds : List D) (Fn : FnT) : Prop where
  ex : ∃ (f : Addr) (fd : FuncData) (ps : List Str) (dvs : List V) (us : List Value), FnG P wd K mg base (L2.CX P wd) k f fd ps (spF ⟨K, ca⟩ Fn) ∧ mg x = some (.ref (ca c)) ∧ Mk K (ca c) f ∧ Binds K fd ps us ∧ Vals dvs us ∧
    ∀ (H : Hp) (A : Addr → Prop), RDs ⟨K, ca⟩ H A ds dvs
def afterMake (ρ : List T) : FR → ER T
  | .okm (.imm _ .non) (o :: _) => .ok o ρ
  | .exc e => .exc e ρ
  | .excm e _ => .exc e ρ
  | _ => .bad
def dMake (Fn : FnT) (c : Nat) (ds : List D) (da : DA) : DE := fun ρ => (da ρ).bind fun ts ρ1 => afterMake ρ1 (Fn (.obj c [] [] :: (ts ++ ds.map (T.imm false))))
/-! o.m(..) of a thing that stands -/
structure MeC (P : Program) (wd : World) (K : PySem.W.Frag) (mg : Str → Option Value) (base : Heap) (ca : Cad) (k : Nat) (m : Str) (c : Nat) (ds : List D) (Fn : FnT) : Prop where
  ex : ∃ (f : Addr) (fd : FuncData) (ps : List Str) (dvs : List V) (us : List Value), FnG P wd K mg base (L2.CX P wd) k f fd ps (spF ⟨K, ca⟩ Fn) ∧ Cls K (ca c) ∧ Meth K (ca c) m f ∧ Binds K fd ps us ∧ Vals dvs us ∧
    ∀ (H : Hp) (A : Addr → Prop), RDs ⟨K, ca⟩ H A ds dvs
def methk (m : Str) (c : Nat) (Fn : FnT) (ds : List D) (da : DA) : T → DE
  | .imm b (.obj c' ns us) => fun ρ => if c' = c ∧ m ∉ ns then (da ρ).bind fun ts ρ1 => afterCall ρ1 (Fn (.imm b (.obj c' ns us) :: (ts ++ ds.map (T.imm false)))) else .bad
  | _ => fun _ => .bad
def dMeth (m : Str) (c : Nat) (Fn : FnT) (ds : List D) (de : DE) (da : DA) : DE := d1 (methk m c Fn ds da) de
def methk0 (m : Str) (c : Nat) (Fn : FnT) (ds : List D) : T → DE
  | .imm b (.obj c' ns us) => fun ρ => if c' = c ∧ m ∉ ns then afterCall ρ (Fn (.imm b (.obj c' ns us) :: ds.map (T.imm false))) else .bad
  | _ => fun _ => .bad
def dMeth0 (m : Str) (c : Nat) (Fn : FnT) (ds : List D) (de : DE) : DE := d1 (methk0 m c Fn ds) de
/-! rules for the walk -/
theorem v_Fld {de : DE} {f : Str} {ok : Nat → Bool} : dFld de f ok ρ = bnd (de ρ) (fldk f ok) := rfl
theorem v_fldk {f : Str} {ok : Nat → Bool} {b : Bool} {c : Nat} {ns : List Str} {ds : List D} {d : D} (h : ok c = true) (e : lookF f ns ds = some d) : fldk f ok (.imm b (.obj c ns ds)) ρ = .ok (.imm b d) ρ := by
  unfold fldk
  simp only [h, e, if_true]
def makek (Fn : FnT) (c : Nat) (ds : List D) : List T → List T → ER T := fun ts ρ => afterMake ρ (Fn (.obj c [] [] :: (ts ++ ds.map (T.imm false))))
theorem v_Make {Fn : FnT} {c : Nat} {ds : List D} {da : DA} : dMake Fn c ds da ρ = bnd (da ρ) (makek Fn c ds) := rfl
theorem v_makek {Fn : FnT} {c : Nat} {ds : List D} {ts : List T} : makek Fn c ds ts ρ = afterMake ρ (Fn (.obj c [] [] :: (ts ++ ds.map (T.imm false)))) := rfl
theorem v_afterMake {b : Bool} {o : T} {os : List T} : afterMake ρ (.okm (.imm b .non) (o :: os)) = .ok o ρ := rfl
theorem v_afterMakeX {e : Ex} : afterMake ρ (.exc e) = .exc e ρ := rfl
theorem v_Meth {m : Str} {c : Nat} {Fn : FnT} {ds : List D} {de : DE} {da : DA} : dMeth m c Fn ds de da ρ = bnd (de ρ) (methk m c Fn ds da) := rfl
def callo (o : T) (Fn : FnT) (ds : List D) : List T → List T → ER T := fun ts ρ => afterCall ρ (Fn (o :: (ts ++ ds.map (T.imm false))))
theorem v_methk {m : Str} {c : Nat} {Fn : FnT} {ds : List D} {da : DA} {b : Bool} {ns : List Str} {us : List D} (h : m ∉ ns) : methk m c Fn ds da (.imm b (.obj c ns us)) ρ = bnd (da ρ) (callo (.imm b (.obj c ns us)) Fn ds) := if_pos ⟨rfl, h⟩
theorem v_callo {o : T} {Fn : FnT} {ds : List D} {ts : List T} : callo o Fn ds ts ρ = afterCall ρ (Fn (o :: (ts ++ ds.map (T.imm false)))) := rfl
theorem v_Meth0 {m : Str} {c : Nat} {Fn : FnT} {ds : List D} {de : DE} : dMeth0 m c Fn ds de ρ = bnd (de ρ) (methk0 m c Fn ds) := rfl
theorem v_methk0 {m : Str} {c : Nat} {Fn : FnT} {ds : List D} {b : Bool} {ns : List Str} {us : List D} (h : m ∉ ns) : methk0 m c Fn ds (.imm b (.obj c ns us)) ρ = afterCall ρ (Fn (.imm b (.obj c ns us) :: ds.map (T.imm false))) := if_pos ⟨rfl, h⟩
end
end Gb

namespace Gb
open PySem PySem.Spec L2
open PyProof.Rows (envOfC)
section
variable {P : Program} {wd : World} {K : PySem.W.Frag} {mg : Str → Option Value} {base : Heap} {ca : Cad} {x qual : Str} {st : Stmt} {f : Addr} {fd : FuncData} {N ps : List Str} {dvs dv : List V} {k : Nat} {body : DS} {Fn : FnT} {ds : List D} {c : Nat} {m : Str}
theorem MeC.mk0 (F : Fun K x qual st f fd) (ok : FnG P wd K mg base (L2.CX P wd) k f fd ps (spF ⟨K, ca⟩ Fn)) (cl : Cls K (ca c)) (h1 : PySem.W.findIn K (.ref (ca c)) m = some (some (.ref f))) (h2 : PySem.W.isFn K (.ref f) = true) (b : Binds K fd ps []) : MeC P wd K mg base ca k m c [] Fn :=
  ⟨⟨f, fd, ps, [], [], ok, cl, ⟨h1, h2, F.kp⟩, b, .nil, fun _ _ => rfl⟩⟩
theorem MkC.mk0 (F : Fun K x qual st f fd) (ok : FnG P wd K mg base (L2.CX P wd) k f fd ps (spF ⟨K, ca⟩ Fn)) (hm : mg m = some (.ref (ca c))) (M : Mk K (ca c) f) (b : Binds K fd ps []) : MkC P wd K mg base ca k m c [] Fn :=
  ⟨⟨f, fd, ps, [], [], ok, hm, M, b, .nil, fun _ _ => rfl⟩⟩
end
end Gb

namespace Gb
open PySem PySem.Spec L2
section
variable {C : Ct} {W : WX} {w w' : Wd} {H H' : Hp} {σ σ' : L2.St} {Q : VK} {X : Cx} {ca : Cad} {ρ : List T} {t u : T} {pn : List Nat}
/-! dicts by whole numbers or texts: d[k], k in d, dict(pairs) -/
def keyD : D → Option Key
  | .int i => some (.inl i)
  | .str s => some (.inr s)
  | _ => none
def getK (k : Key) : List Key → List D → Option D
  | n :: ns, d :: ds => if n = k then some d else getK k ns ds
  | _, _ => none
def fDGet : T → T → DE
  | .imm b (.dic ks ds), .imm _ e => fun ρ => (match keyD e with
    | some k => (match getK k ks ds with
      | some d => .ok (.imm b d) ρ
      | none => .bad)
    | none => .bad)
  | _, _ => fun _ => .bad
/-! dict(pairs) -/
def pairD : D → Option (Key × D)
  | .tup ds => (match ds with
    | [e, d] => (keyD e).map fun k => (k, d)
    | _ => none)
  | _ => none
def pairsD : List D → Option (List Key × List D)
  | [] => some ([], [])
  | p :: r => (match pairD p, pairsD r with
    | some (k, d), some (ks, ds) => some (k :: ks, d :: ds)
    | _, _ => none)
def fDictP : List T → List T → ER T
  | [.imm false (.lst prs)], ρ => (match pairsD prs with
    | some (ks, ds) => if ks.Nodup then .ok (.dicI ks ds) ρ else .bad
    | none => .bad)
  | _, _ => .bad
theorem v_fDGet {b c : Bool} {ks : List Key} {ds : List D} {e d : D} {k : Key} (h : keyD e = some k) (g : getK k ks ds = some d) : fDGet (.imm b (.dic ks ds)) (.imm c e) ρ = .ok (.imm b d) ρ := by
  unfold fDGet
  simp only [h, g]
theorem v_fDictP {prs ds : List D} {ks : List Key} (h : pairsD prs = some (ks, ds)) (hn : ks.Nodup) : fDictP [.imm false (.lst prs)] ρ = .ok (.dicI ks ds) ρ := by
  unfold fDictP
  simp only [h, if_pos hn]
end
end Gb

namespace Gb.SetT
open PySem PySem.Spec PyProof.Rows
/-! set(list of texts) -/
section
variable {prog : Program} {w : World} {A : Around} {R : Result → Shared → Prop} {I : Addr} {fp wr : List Addr} {G : Array GenState → Array GenState → Prop} {n : Nat} {P : Nat → Value → Prop} {St : Nat → Shared → Prop}

end
section
variable {prog : Program} {w : World} {A : Around} {E : Value → Shared → Prop} {s : Shared}
end
end Gb.SetT

namespace Gb
open PySem PySem.Spec PyProof.Rows L2
section
variable {C : Ct} {W : WX} {w w' : Wd} {H H' : Hp} {σ σ' : L2.St} {Q : VK} {X : Cx} {ca : Cad} {ρ : List T} {t u : T} {pn : List Nat}
/-! len(set(xs)), xs a list of texts -/
/-- how many unlike ones -/
def unlikeN (xs : List Str) : Nat := (xs.foldl step_dedup []).length
def strsD : List D → Option (List Str)
  | [] => some []
  | .str s :: r => (strsD r).map (s :: ·)
  | _ => none
def lenSk : T → DE
  | .imm _ (.lst ds) => fun ρ => (match strsD ds with
    | some xs => if xs.length ≤ 4000 then .ok (.imm false (.int (unlikeN xs : Nat))) ρ else .bad
    | none => .bad)
  | _ => fun _ => .bad
def dLenSet (de : DE) : DE := d1 lenSk de
theorem v_LenSet {de : DE} : dLenSet de ρ = bnd (de ρ) lenSk := rfl
theorem v_lenSk {b : Bool} {ds : List D} {xs : List Str} (h : strsD ds = some xs) (l : xs.length ≤ 4000) : lenSk (.imm b (.lst ds)) ρ = .ok (.imm false (.int (unlikeN xs : Nat))) ρ := by
  unfold lenSk
  simp only [h, if_pos l]
end
end Gb

namespace Gb
open PySem PySem.Spec L2
section
variable {C : Ct} {W : WX} {pn ch : List Nat} {w w' : Wd} {H H' : Hp} {σ σ' : L2.St} {En : Ends} {X : Cx} {ca : Cad} {ρ : List T} {t u : T} {v x : Option V}
/-! for i in reversed(range(n)) -/
def revRgItems : T → List T → ER (Bool × List D)
  | .imm _ (.int n), ρ => if -4611686018427387904 ≤ n ∧ n ≤ 16777216 then .ok (false, rangeDs (0 + (((n - 0).toNat : Nat) : Int) - 1) (-1) (n - 0).toNat) ρ else .bad
  | _, _ => .bad
def diRevRg (de : DE) : DI := fun ρ => (de ρ).bind revRgItems
variable {n : Int} {b : Bool} {de : DE}
theorem v_iRevRg : diRevRg de ρ = bnd (de ρ) revRgItems := rfl
theorem v_revRg (h1 : 0 ≤ n) (h2 : n ≤ 16777216) : revRgItems (.imm b (.int n)) ρ = .ok (false, rangeDs (n - 1) (-1) n.toNat) ρ := by
  show (if _ then _ else _) = _
  rw [if_pos ⟨by omega, h2⟩]
  have e : 0 + (((n - 0).toNat : Nat) : Int) - 1 = n - 1 := by omega
  have e2 : (n - 0).toNat = n.toNat := by omega
  rw [e, e2]
end
end Gb

namespace Gb
open PySem PySem.Spec L2
section
variable {ρ : List T} {n : Nat} {b : Bool} {ds : List D} {c : Nat} {ns : List Str} {ts : List T}
/-! an own thing of a class, frozen by a reading -/
def varo (n c : Nat) (ns : List Str) (ρ : List T) : Option (Bool × List D) → ER T
  | some (b, ds) => .ok (.imm b (.obj c ns ds)) (ρ.set n (.imm b (.obj c ns ds)))
  | none => .bad
theorem v_vark_obj : vark n ρ (some (.obj c ns ts)) = varo n c ns ρ (frzs ts) := by
  unfold vark varo
  simp only [T.frz]
  cases frzs ts <;> rfl
theorem v_varo : varo n c ns ρ (some (b, ds)) = .ok (.imm b (.obj c ns ds)) (ρ.set n (.imm b (.obj c ns ds))) := rfl
def frok (c : Nat) (ns : List Str) (ρ : List T) : Option (Bool × List D) → ER T
  | some (b, ds) => .ok (.imm b (.obj c ns ds)) ρ
  | none => .bad
theorem v_frk_obj : frk (.obj c ns ts) ρ = frok c ns ρ (frzs ts) := by
  unfold frk frok
  simp only [T.frz]
  cases frzs ts <;> rfl
theorem v_frok : frok c ns ρ (some (b, ds)) = .ok (.imm b (.obj c ns ds)) ρ := rfl
end
end Gb

namespace Gb
open PySem PySem.Spec L2 PyProof.Rows
/-! max(a list of ints, default=a written int) -/
def maxDef (z : Int) : List Int → Int
  | [] => z
  | n :: ns => ns.foldl max n
section
variable {X : Cx}
end
def maxdk (z : Int) (ρ : List T) : Option (List Int) → ER T
  | some ns => .ok (.imm false (.int (maxDef z ns))) ρ
  | none => .bad
def fMaxDef (z : Int) : T → DE
  | .imm _ (.lst ds), ρ => maxdk z ρ (D.ints ds)
  | _, _ => .bad
def dMaxDef (z : Int) (de : DE) : DE := d1 (fMaxDef z) de
section
variable {X : Cx} {ca : Cad} {W : WX}
end
section
variable {ρ : List T} {b : Bool} {ds : List D} {z : Int}
theorem v_dMaxDef {da : DE} : dMaxDef z da ρ = bnd (da ρ) (fMaxDef z) := rfl
theorem v_fMaxDef : fMaxDef z (.imm b (.lst ds)) ρ = maxdk z ρ (D.ints ds) := rfl
theorem v_maxdk {ns : List Int} : maxdk z ρ (some ns) = .ok (.imm false (.int (maxDef z ns))) ρ := rfl
end
end Gb

namespace Gb
open PySem PySem.Spec L2
/-! own things of a class, changed: o.m(..), self.f, self.f = .., self.f.append(..) -/
def ixF (f : Str) : List Str → Option Nat
  | [] => none
  | n :: ns => if n = f then some 0 else (ixF f ns).map (· + 1)
section
variable {C : Ct} {W : WX} {pn : List Nat} {w w' : Wd} {H H' : Hp} {σ σ' : L2.St} {En : Ends} {X : Cx} {ca : Cad} {ρ : List T} {t u : T} {v x : Option V} {c k : Nat} {ns : List Str} {ts : List T} {p : Addr}
theorem Stt.head_obj (h : Stt C w H (.obj c ns ts :: ρ) (v :: σ)) : ∃ p dx fs, v = some (.ref p) ∧ H p = some (.ins (C.ca c) dx fs) ∧ fs.map (·.1) = ns ∧ fs.length = ts.length := by
  obtain ⟨F, ⟨v0, r0, f1, f4, e0, ⟨a, dx, fs, f, e3, g, g2, q, rd, rfl⟩, h4, rfl⟩, nd, out, tr, tb⟩ := h
  injection e0 with e1 e2
  subst e1
  exact ⟨a, dx, fs, e3, g, q, by rw [rd.length, List.length_map]⟩
/-- a field taken out -/
theorem Stt.unplugF (h : Stt C w H (.obj c ns ts :: ρ) (some (.ref p) :: σ)) (e : ts[k]? = some t) :
    ∃ dx fs y, H p = some (.ins (C.ca c) dx fs) ∧ fs.map (·.1) = ns ∧ (fs.map fun q => some q.2)[k]? = some y ∧ Stt C w H (.obj c ns (ts.set k .dead) :: t :: ρ) (some (.ref p) :: y :: σ) := by
  obtain ⟨F, ⟨v0, r0, f1, f4, e0, ⟨a, dx, fs, f, e3, g, g0, q, rd, rfl⟩, h4, rfl⟩, nd, out, tr, tb⟩ := h
  injection e0 with e1 e2
  subst e1; subst e2
  cases e3
  obtain ⟨y, g1, fp, g2, hv, rt, rfl, put⟩ := rd.at e
  have k1 := put .dead y [] rfl
  rw [set_same hv, List.append_nil] at k1
  have pm : ((p :: dx :: (g1 ++ g2)) ++ (fp ++ f4)).Perm ((p :: dx :: (g1 ++ fp ++ g2)) ++ f4) := by
    simp only [List.cons_append, List.append_assoc]
    refine List.Perm.cons p (List.Perm.cons dx (List.Perm.append_left g1 ?_))
    exact List.perm_append_comm_assoc g2 fp f4
  exact ⟨dx, fs, y, g, q, hv, (p :: dx :: (g1 ++ g2)) ++ (fp ++ f4), ⟨_, _, p :: dx :: (g1 ++ g2), fp ++ f4, rfl, ⟨p, dx, fs, g1 ++ g2, rfl, g, g0, q, k1, rfl⟩, ⟨y, σ, fp, f4, rfl, rt, h4, rfl⟩, rfl⟩, pm.nodup_iff.mpr nd, fun b hb => out b (pm.mem_iff.mp hb), tr, tb⟩
/-- and put back -/
theorem Stt.plugF {dx : Addr} {fs : List (Str × V)} {y : Option V} (h : Stt C w H (.obj c ns ts :: t :: ρ) (some (.ref p) :: y :: σ)) (e : ts[k]? = some .dead) (hp : H p = some (.ins (C.ca c) dx fs)) (hy : (fs.map fun q => some q.2)[k]? = some y) :
    Stt C w H (.obj c ns (ts.set k t) :: ρ) (some (.ref p) :: σ) := by
  obtain ⟨F, ⟨v0, r, f1, f2, e0, ⟨a, dx', fs', f, e3, g, g0, q, rd, rfl⟩, ⟨v1, r1, fp, f4, e', h3, h4, rfl⟩, rfl⟩, nd, out, tr, tb⟩ := h
  injection e0 with e1 e2
  subst e1; subst e2
  injection e' with e1 e2
  subst e1; subst e2
  cases e3
  rw [hp] at g
  cases g
  obtain ⟨v', g1, fd, g2, hv, hd, rfl, put⟩ := rd.at e
  have hd' : fd = [] := hd
  subst hd'
  have k1 := put t y fp h3
  rw [set_same hy] at k1
  have pm : ((p :: dx :: (g1 ++ fp ++ g2)) ++ f4).Perm ((p :: dx :: (g1 ++ [] ++ g2)) ++ (fp ++ f4)) := by
    simp only [List.cons_append, List.append_assoc, List.nil_append]
    refine List.Perm.cons p (List.Perm.cons dx (List.Perm.append_left g1 ?_))
    exact List.perm_append_comm_assoc fp g2 f4
  exact ⟨(p :: dx :: (g1 ++ fp ++ g2)) ++ f4, ⟨_, _, p :: dx :: (g1 ++ fp ++ g2), f4, rfl, ⟨p, dx, fs, g1 ++ fp ++ g2, rfl, hp, g0, q, k1, rfl⟩, h4, rfl⟩, pm.nodup_iff.mpr nd, fun b hb => out b (pm.mem_iff.mp hb), tr, tb⟩
/-- self.f -/
def fldo (i : Nat) (f : Str) (ok : Nat → Bool) (ρ : List T) : Option T → ER T
  | some (.obj c ns ts) => if ok c = true then (match ixF f ns with
    | some k => (match (ts[k]?).bind T.frz with
      | some (b, d) => .ok (.imm b d) (ρ.set i (.obj c ns (ts.set k (.imm b d))))
      | none => .bad)
    | none => .bad) else .bad
  | _ => .bad
def dFldO (i : Nat) (f : Str) (ok : Nat → Bool) : DE := fun ρ => fldo i f ok ρ ρ[i]?
/-- a field of the thing in slot i: taken out, and put back otherwise -/
theorem Stt.field {i : Nat} (S : Stt C w H ρ σ) (hi : ρ[i]? = some (.obj c ns ts)) (hk : ts[k]? = some t) :
    ∃ p dx fs y, σ[i]? = some (some (.ref p)) ∧ H p = some (.ins (C.ca c) dx fs) ∧ fs.map (·.1) = ns ∧ (fs.map fun q => some q.2)[k]? = some y ∧ Stt C w H (.obj c ns (ts.set k .dead) :: t :: ρ.set i .dead) (some (.ref p) :: y :: σ) ∧
    ∀ (w' : Wd) (H' : Hp) (t' : T), H' p = some (.ins (C.ca c) dx fs) → Stt C w' H' (.obj c ns (ts.set k .dead) :: t' :: ρ.set i .dead) (some (.ref p) :: y :: σ) → Stt C w' H' (ρ.set i (.obj c ns (ts.set k t'))) σ := by
  obtain ⟨v, hv, S1⟩ := S.move hi
  obtain ⟨p, dx0, fs0, rfl, _, _, _⟩ := S1.head_obj
  obtain ⟨dx, fs, y, h1, h2, h3, S2⟩ := S1.unplugF hk
  have hkl := (List.getElem?_eq_some_iff.mp hk).1
  refine ⟨p, dx, fs, y, hv, h1, h2, h3, S2, fun w' H' t' hp S' => ?_⟩
  have S4 := S'.plugF (k := k) (by rw [List.getElem?_set_self hkl]) hp h3
  rw [List.set_set] at S4
  exact S4.backO hv (List.getElem?_eq_some_iff.mp hi).1
end
end Gb

namespace Gb
open PySem PySem.Spec L2
section
variable {C : Ct} {W : WX} {pn : List Nat} {w w' : Wd} {H H' : Hp} {σ σ' : L2.St} {En : Ends} {X : Cx} {ca : Cad} {ρ : List T} {t u : T} {v x : Option V} {c k : Nat} {ns : List Str} {ts : List T} {p : Addr}
/-- self.f = e -/
def putk (i : Nat) (f : Str) (ok : Nat → Bool) (t : T) (ρ1 : List T) : Option T → SR
  | some (.obj c ns ts) => if ok c = true ∧ ns.length < 1000 then (match ixF f ns with
    | some k => if k < ts.length then .next (ρ1.set i (.obj c ns (ts.set k t))) else .bad
    | none => .next (ρ1.set i (.obj c (ns ++ [f]) (ts ++ [t])))) else .bad
  | _ => .bad
def dPutF (i : Nat) (f : Str) (ok : Nat → Bool) (de : DE) : DS := fun ρ => match de ρ with
  | .ok t ρ1 => putk i f ok t ρ1 ρ1[i]?
  | .exc e ρ1 => .exc e ρ1
  | .bad => .bad
end
end Gb

namespace Gb
open PySem PySem.Spec L2
open PyProof.Rows (envOfC)
section
variable {C : Ct} {W : WX} {pn : List Nat} {w w' : Wd} {H H' : Hp} {σ σ' : L2.St} {En : Ends} {X : Cx} {ca : Cad} {ρ : List T} {t u o : T} {v x : Option V} {c k : Nat} {ns : List Str} {ts : List T} {p q : Addr}
/-! defs that change what they are given, also where they raise -/
def finX (n : Nat) : SR → FR
  | .next ρ => .okm (.imm false .non) (ρ.take n)
  | .ret t ρ => .okm t (ρ.take n)
  | .exc e ρ => .excm e (ρ.take n)
  | .brk _ => .bad
  | .cont _ => .bad
  | .bad => .bad
def mkFnX (N n : Nat) (body : DS) : FnT := fun ts => if ts.length = n then finX n (body (ts ++ List.replicate (N - n) .dead)) else .bad
variable {P : Program} {wd : World} {K : PySem.W.Frag} {mg : Str → Option Value} {base : Heap}
/-! o.m(..) of one's own thing, changed by it -/
def afterO (i : Nat) (ρ1 : List T) : FR → ER T
  | .okm t (o :: _) => .ok t (ρ1.set i o)
  | .excm e (o :: _) => .exc e (ρ1.set i o)
  | _ => .bad
def metho (i : Nat) (m : Str) (c : Nat) (Fn : FnT) (ds : List D) (ts ρ1 : List T) : Option T → ER T
  | some (.obj c' ns us) => if c' = c ∧ m ∉ ns then afterO i ρ1 (Fn (.obj c' ns us :: (ts ++ ds.map (T.imm false)))) else .bad
  | _ => .bad
def isO (m : Str) (c : Nat) : Option T → Bool
  | some (.obj c' ns us) => decide (c' = c ∧ m ∉ ns)
  | _ => false
def dMethO (i : Nat) (m : Str) (c : Nat) (Fn : FnT) (ds : List D) (da : DA) : DE := fun ρ => if isO m c ρ[i]? = true then (da ρ).bind fun ts ρ1 => metho i m c Fn ds ts ρ1 ρ1[i]? else .bad
theorem getO {ats : List T} {i : Nat} : (ats ++ ρ)[ats.length + i]? = ρ[i]? := by
  rw [List.getElem?_append_right (by omega)]
  congr 1
  omega
theorem setO {ats : List T} {i : Nat} {t : T} : (ats ++ ρ).set (ats.length + i) t = ats ++ ρ.set i t := by
  rw [List.set_append_right _ _ (by omega)]
  congr 2
  omega
def dMethO0 (i : Nat) (m : Str) (c : Nat) (Fn : FnT) (ds : List D) : DE := fun ρ => metho i m c Fn ds [] ρ ρ[i]?
end
end Gb

namespace Gb
open PySem PySem.Spec L2
section
variable {C : Ct} {W : WX} {pn : List Nat} {w w' : Wd} {H H' : Hp} {σ σ' : L2.St} {En : Ends} {X : Cx} {ca : Cad} {ρ : List T} {t u o : T} {v x : Option V} {c k : Nat} {ns : List Str} {ts : List T} {p q : Addr}
/-! self.f.m(..): a thing within one's own thing, changed by its own def -/
/-- just this address -/
def ptT (a : Nat) : T := .imm false (.exn a 0 [] [])
theorem Stt.pt (S : Stt C w H ρ σ) (q : Addr) : Stt C w H (ptT q :: ρ) (some (.ref q) :: σ) := S.cons_imm ⟨rfl, .inl rfl⟩
/-- the field's thing is taken out, its place is kept by its address -/
theorem Stt.hole {i : Nat} (S : Stt C w H ρ σ) (hi : ρ[i]? = some (.obj c ns ts)) (hk : ts[k]? = some t) (hq : ∀ (w : Wd) (v : Option V) (ρ' : List T) (σ' : L2.St), Stt C w H (t :: ρ') (v :: σ') → ∃ q, v = some (.ref q)) :
    ∃ p dx fs q, σ[i]? = some (some (.ref p)) ∧ H p = some (.ins (C.ca c) dx fs) ∧ fs.map (·.1) = ns ∧ (fs.map fun q => some q.2)[k]? = some (some (.ref q)) ∧ Stt C w H (t :: ρ.set i (.obj c ns (ts.set k (ptT q)))) (some (.ref q) :: σ) := by
  obtain ⟨p, dx, fs, y, h1, h2, h3, h4, S1, _⟩ := S.field hi hk
  obtain ⟨q, rfl⟩ := hq _ _ _ _ S1.swap
  have hkl := (List.getElem?_eq_some_iff.mp hk).1
  have S2 := ((S1.pt q).swap).plugF (k := k) (by rw [List.getElem?_set_self hkl]) h2 h4
  rw [List.set_set] at S2
  have S3 := Stt.backO (ρ := t :: ρ) (i := i + 1) (by simpa using S2) (by simpa using h1) (by have := (List.getElem?_eq_some_iff.mp hi).1; simp; omega)
  exact ⟨p, dx, fs, q, h1, h2, h3, h4, by simpa using S3⟩
end
end Gb

namespace Gb
open PySem PySem.Spec L2
/-! an own list lent to a call that gives back what holds no list: nothing of it is borrowed -/
section
variable {C : Ct} {W : WX} {pn : List Nat} {w w' w1 : Wd} {H H' : Hp} {σ σ' : L2.St} {En : Ends} {X : Cx} {ca : Cad} {ρ : List T} {t u o : T} {v x : Option V} {a : Addr} {A A' : Addr → Prop}
end
end Gb

namespace Gb
open PySem PySem.Spec L2
section
variable {C : Ct} {W : WX} {pn : List Nat} {w w' : Wd} {H H' : Hp} {σ σ' : L2.St} {En : Ends} {X : Cx} {ca : Cad} {ρ : List T} {t u o : T} {v x : Option V}
/-! o.m(..) where the thing's class is known when it is met -/
theorem MeC.mono {P : Program} {wd : World} {K : PySem.W.Frag} {mg : Str → Option Value} {base : Heap} {k k' : Nat} {m : Str} {ds : List D} {c : Nat} {F : FnT} (h : MeC P wd K mg base ca k m c ds F) (le : k ≤ k') : MeC P wd K mg base ca k' m c ds F := by
  obtain ⟨f, fd, ps, dvs, us, ok, r⟩ := h.ex
  exact ⟨⟨f, fd, ps, dvs, us, ok.mono le, r⟩⟩
def methD (m : Str) (tab : List (Nat × FnT)) (ds : List D) (da : DA) : T → DE
  | .imm b (.obj c ns us) => fun ρ => match tab.lookup c with
    | some F => methk m c F ds da (.imm b (.obj c ns us)) ρ
    | none => .bad
  | _ => fun _ => .bad
def mdk (m : Str) (tab : List (Nat × FnT)) (ds : List D) (da : DA) : ER T → ER T
  | .ok x ρ1 => methD m tab ds da x ρ1
  | _ => .bad
def dMethD (m : Str) (tab : List (Nat × FnT)) (ds : List D) (de : DE) (da : DA) : DE := fun ρ => mdk m tab ds da (de ρ)
def methD0 (m : Str) (tab : List (Nat × FnT)) (ds : List D) : T → DE
  | .imm b (.obj c ns us) => fun ρ => match tab.lookup c with
    | some F => methk0 m c F ds (.imm b (.obj c ns us)) ρ
    | none => .bad
  | _ => fun _ => .bad
def mdk0 (m : Str) (tab : List (Nat × FnT)) (ds : List D) : ER T → ER T
  | .ok x ρ1 => methD0 m tab ds x ρ1
  | _ => .bad
def dMethD0 (m : Str) (tab : List (Nat × FnT)) (ds : List D) (de : DE) : DE := fun ρ => mdk0 m tab ds (de ρ)
theorem v_MethD {m : Str} {tab : List (Nat × FnT)} {ds : List D} {de : DE} {da : DA} : dMethD m tab ds de da ρ = mdk m tab ds da (de ρ) := rfl
theorem v_mdk {m : Str} {tab : List (Nat × FnT)} {ds : List D} {da : DA} : mdk m tab ds da (.ok t ρ) = methD m tab ds da t ρ := rfl
theorem v_MethD0 {m : Str} {tab : List (Nat × FnT)} {ds : List D} {de : DE} : dMethD0 m tab ds de ρ = mdk0 m tab ds (de ρ) := rfl
theorem v_mdk0 {m : Str} {tab : List (Nat × FnT)} {ds : List D} : mdk0 m tab ds (.ok t ρ) = methD0 m tab ds t ρ := rfl
theorem v_methD {m : Str} {tab : List (Nat × FnT)} {ds : List D} {da : DA} {b : Bool} {c : Nat} {ns : List Str} {us : List D} {F : FnT} (l : tab.lookup c = some F) (h : m ∉ ns) : methD m tab ds da (.imm b (.obj c ns us)) ρ = bnd (da ρ) (callo (.imm b (.obj c ns us)) F ds) := by
  unfold methD
  simp only [l]
  exact v_methk h
theorem v_methD0 {m : Str} {tab : List (Nat × FnT)} {ds : List D} {b : Bool} {c : Nat} {ns : List Str} {us : List D} {F : FnT} (l : tab.lookup c = some F) (h : m ∉ ns) : methD0 m tab ds (.imm b (.obj c ns us)) ρ = afterCall ρ (F (.imm b (.obj c ns us) :: ds.map (T.imm false))) := by
  unfold methD0
  simp only [l]
  exact v_methk0 h
/-! isinstance(o, C), C a class of the program -/
structure OwnC (K : PySem.W.Frag) (C : Addr) : Prop where
  cl : Cls K C
  ha : PySem.W.findIn K (.ref C) "__class__" = some (some (.builtin "object.__class__"))
  hn : PySem.W.specialIn K (.builtin "object.__class__") "__get__" = some (some (.builtin "getset_descriptor.__get__"))
  tk : PySem.W.takesIn K (.builtin "object.__class__") = some true
  hm : PySem.W.mroIn K C (.type "object") = some true
def isOk (r : Nat → Option Bool) : T → DE
  | .imm b (.obj c ns us) => fun ρ => match r c with
    | some v => .ok (.imm false (.bl v)) ρ
    | none => .bad
  | _ => fun _ => .bad
def dIsO (r : Nat → Option Bool) (de : DE) : DE := d1 (isOk r) de
theorem v_IsO {r : Nat → Option Bool} {de : DE} : dIsO r de ρ = bnd (de ρ) (isOk r) := rfl
theorem v_isOk {r : Nat → Option Bool} {b : Bool} {c : Nat} {ns : List Str} {us : List D} {a : Bool} (h : r c = some a) : isOk r (.imm b (.obj c ns us)) ρ = .ok (.imm false (.bl a)) ρ := by
  unfold isOk
  simp only [h]
end
end Gb

namespace Gb
open PySem PySem.Spec L2
section
variable {C : Ct} {W : WX} {w w' : Wd} {H H' : Hp} {σ σ' : L2.St} {Q : VK} {X : Cx} {ca : Cad} {ρ : List T} {t u : T}
/-! zip(tuple, tuple) -/
def zipItemsT : List T → List T → ER (Bool × List D)
  | [.imm b (.tup ds), .imm c (.tup es)], ρ => if ds.length ≤ 16777216 then .ok (b || c, zpD ds es) ρ else .bad
  | _, _ => .bad
def diZipT (da : DA) : DI := fun ρ => (da ρ).bind zipItemsT
theorem v_iZipT {dr : DA} : diZipT dr ρ = bnd (dr ρ) zipItemsT := rfl
theorem v_zipItemsT {b1 b2 : Bool} {ds es : List D} (h : ds.length ≤ 16777216) : zipItemsT [.imm b1 (.tup ds), .imm b2 (.tup es)] ρ = .ok (b1 || b2, zpD ds es) ρ := if_pos h
end
end Gb

namespace Gb
open PySem PySem.Spec L2
/-! sorted(a list of tuples whose first two items are ints, these unlike) -/
section
open PyProof.Rows Srt SrtO
/-- a tuple that begins with two ints -/
def IsTwo (h : Heap) (v : Value) (p : Int × Int) : Prop := ∃ a o t u xs n, v = .ref a ∧ h.get? a = some o ∧ o.cls = .type "tuple" ∧ o.data = .seq xs n ∧ ∃ r, xs.toList = .int p.1 t :: .int p.2 u :: r
theorem IsTwo.keeps {h h' : Heap} {v : Value} {p : Int × Int} (z : IsTwo h v p) (k : ∀ b o, h.get? b = some o → o.cls = .type "tuple" → h'.get? b = some o) : IsTwo h' v p := by
  obtain ⟨a, o, t, u, xs, n, e, ho, hc, hd, r⟩ := z
  exact ⟨a, o, t, u, xs, n, e, k _ _ ho hc, hc, hd, r⟩
section
variable {prog : Program} {w : World} {A : Around} {E : Value → Shared → Prop} {s : Shared}
end
end
section
variable {X : Cx}
end
def key2 : D → Option (Int × Int)
  | .tup (.int a :: .int b :: _) => some (a, b)
  | _ => none
def k2 (d : D) : Int × Int := (key2 d).getD (0, 0)
def le2 (p q : Int × Int) : Bool := decide (p.1 < q.1 ∨ (p.1 = q.1 ∧ p.2 ≤ q.2))
def sort2 (ds : List D) : List D := ds.mergeSort fun a b => le2 (k2 a) (k2 b)
def fSort2 : List T → List T → ER T
  | [.imm false (.lst ds)], ρ => if (ds.all fun d => (key2 d).isSome) = true ∧ (ds.map k2).Nodup ∧ ds.length ≤ 16777216 then .ok (.lstI (sort2 ds)) ρ else .bad
  | _, _ => .bad
section
variable {X : Cx} {ca : Cad} {W : WX}
variable {ρ : List T}
theorem v_fSort2 {ds : List D} (h1 : (ds.all fun d => (key2 d).isSome) = true) (h2 : (ds.map k2).Nodup) (h3 : ds.length ≤ 16777216) : fSort2 [.imm false (.lst ds)] ρ = .ok (.lstI (sort2 ds)) ρ := if_pos ⟨h1, h2, h3⟩
end
end Gb

namespace L2
open PySem PySem.Spec PyProof.Rows PySem.HandSPX
/-! a list comprehension of a def that an exception leaves -/
section
variable {M : Model} {A : Around} {E : Value → Shared → Prop} {s : Shared} {Z : Obj → Prop} {base : Heap} {env : Env} {outer l : List Env} {L L' e : Addr}
end
section
variable {M : Model} {A : Around} {E : Value → Shared → Prop} {s : Shared} {env : Env}
end
abbrev Cx.blkX (X : Cx) (s : Shared) (H : Hp) (scope : Scope) (cenv : Env) (fp : List Addr) (xe : Value → Shared → Prop) : Cx := { X with s_0 := s, H_0 := H, env := cenv, outer := X.stack, ex := fp, fn := fun x => scope.names.lookup x == some .cell, pn := [], xe := xe }
section
variable {X : Cx}
end
end L2

namespace L2
open PySem PySem.Spec PyProof.Rows PySem.HandSPX
section
variable {X : Cx}
end
end L2
namespace Gb
open PySem PySem.Spec L2
def compLX (dg : DG) (dt : DT) (de : DE) (own : List Nat) (b : Bool) : List D → List T → ER (List D)
  | [], ρ => .ok [] ρ
  | d :: ds, ρ => match dg (.imm b d) ρ with
    | none => .bad
    | some ρ1 => match dt ρ1 with
      | .ok true ρ2 => match de ρ2 with
        | .ok t ρ3 => match t.frz with
          | some (false, e) => match compLX dg dt de own b ds (killL own ρ3) with
            | .ok r ρ4 => .ok (e :: r) ρ4
            | .exc x ρ4 => .exc x ρ4
            | .bad => .bad
          | _ => .bad
        | .exc x ρ3 => .exc x (killL own ρ3)
        | .bad => .bad
      | .ok false ρ2 => compLX dg dt de own b ds (killL own ρ2)
      | _ => .bad
def endX (own : List Nat) (acc : List D) : ER (List D) → ER T
  | .ok r ρ2 => .ok (.lstI (acc ++ r)) (killL own ρ2)
  | .exc x ρ2 => .exc x (killL own ρ2)
  | .bad => .bad
def dLcX (own : List Nat) (dg : DG) (di : DI) (dt : DT) (de : DE) : DE := fun ρ => match di ρ with
  | .ok p ρ1 => endX own [] (compLX dg dt de own p.1 p.2 (killL own ρ1))
  | .exc e ρ1 => .exc e ρ1
  | .bad => .bad
structure BlkX (X : Cx) (ca : Cad) (W : WX) (scope : Scope) (own : List (Str × Nat)) (ch : List Nat) (tg elt : Expr) (ifs : List Expr) (dg : DG) (dt : DT) (de : DE) : Prop where
  ok : BlkOk X.N X.env.scope scope own
  nd : X.N.Nodup
  g : ∀ (s : Shared) (H : Hp) (C : Addr) (cl : List (Str × Addr)) (fp : List Addr) (xe : Value → Shared → Prop), SG (X.blkX s H scope (compEnvC scope cl C X.env) fp xe) ca ch tg dg
  t : ∀ (s : Shared) (H : Hp) (C : Addr) (cl : List (Str × Addr)) (fp : List Addr) (xe : Value → Shared → Prop), STs (X.blkX s H scope (compEnvC scope cl C X.env) fp xe) ca WF ifs dt
  e : ∀ (σ0 : L2.St) (s : Shared) (H : Hp) (C : Addr) (cl : List (Str × Addr)) (fp : List Addr) (xe : Value → Shared → Prop), Takes (X.blkX s H scope (compEnvC scope cl C X.env) fp xe) (fun cls dx _ H' => W cls dx σ0 H') →
    SE (X.blkX s H scope (compEnvC scope cl C X.env) fp xe) ca (fun cls dx _ H' => W cls dx σ0 H') elt de
  ch : ∀ i ∈ ch, i ∈ own.map (·.2)
section
variable {C : Ct} {W : WX} {pn ch : List Nat} {w w' : Wd} {H H' : Hp} {σ σ' : L2.St} {X : Cx} {ca : Cad} {ρ : List T} {t u : T} {v x : Option V}
end
end Gb

namespace Gb
open PySem PySem.Spec L2
section
variable {dg : DG} {dt : DT} {de : DE} {di : DI} {own : List Nat} {b : Bool} {ds : List D} {ρ : List T}
def lckX (own : List Nat) (dg : DG) (dt : DT) (de : DE) : Bool × List D → List T → ER T := fun p ρ => endX own [] (compLX dg dt de own p.1 p.2 (killL own ρ))
theorem v_LcX : dLcX own dg di dt de ρ = bnd (di ρ) (lckX own dg dt de) := by
  unfold dLcX bnd ER.bind lckX
  cases di ρ <;> rfl
theorem v_lckX : lckX own dg dt de (b, ds) ρ = endX own [] (compLX dg dt de own b ds (killL own ρ)) := rfl
theorem v_endX : endX own [] (.ok ds ρ) = .ok (.lstI ds) (killL own ρ) := rfl
theorem v_endX_exc {x : Ex} {acc : List D} : endX own acc (.exc x ρ) = .exc x (killL own ρ) := rfl
end
end Gb

namespace L2
open PySem PySem.Spec PyProof.Rows
open Builtin
/-! enumerate(tuple) -/
section
variable {prog : Program} {w : World} {A : Around} {E : Value → Shared → Prop} {s : Shared}
end
end L2
namespace Gb
open PySem PySem.Spec L2
section
variable {C : Ct} {W : WX} {w w' : Wd} {H H' : Hp} {σ σ' : L2.St} {Q : VK} {X : Cx} {ca : Cad} {ρ : List T} {t u : T}
def enumItemsT : List T → List T → ER (Bool × List D)
  | [.imm b (.tup ds)], ρ => if ds.length ≤ 16777216 then .ok (b, enD 0 ds) ρ else .bad
  | _, _ => .bad
def diEnumT (da : DA) : DI := fun ρ => (da ρ).bind enumItemsT
theorem v_iEnumT {dr : DA} : diEnumT dr ρ = bnd (dr ρ) enumItemsT := rfl
theorem v_enumItemsT {b : Bool} {ds : List D} (h : ds.length ≤ 16777216) : enumItemsT [.imm b (.tup ds)] ρ = .ok (b, enD 0 ds) ρ := if_pos h
end
end Gb

namespace Gb
open PySem PySem.Spec L2
section
variable {C : Ct} {W : WX} {pn : List Nat} {w w' w1 : Wd} {H H' : Hp} {σ σ' : L2.St} {En : Ends} {X : Cx} {ca : Cad} {ρ : List T} {t u o : T} {v : Option V}
/-! list(x) of a list of one's own, or of one that stands -/
def dListW (i : Nat) : DE := fun ρ => match ρ[i]? with
  | some (.lstI ds) => .ok (.lstI ds) ρ
  | some (.imm false (.lst ds)) => .ok (.lstI ds) ρ
  | _ => .bad
def lswk (ρ : List T) : Option T → ER T
  | some (.lstI ds) => .ok (.lstI ds) ρ
  | some (.imm false (.lst ds)) => .ok (.lstI ds) ρ
  | _ => .bad
theorem v_ListW {n : Nat} : dListW n ρ = lswk ρ ρ[n]? := by
  unfold dListW lswk
  rfl
theorem v_lswk1 {ds : List D} : lswk ρ (some (.lstI ds)) = .ok (.lstI ds) ρ := rfl
theorem v_lswk2 {ds : List D} : lswk ρ (some (.imm false (.lst ds))) = .ok (.lstI ds) ρ := rfl
/-! C(a, b, xs) of names: the list is the callee's own while it runs, and is given back -/
def dMakeL (Fn : FnT) (c i j k : Nat) : DE := fun ρ => match ρ[i]?, ρ[j]?, ρ[k]? with
  | some (.imm false d1), some (.imm false d2), some (.lstI ds) => (match Fn [.obj c [] [], .imm false d1, .imm false d2, .lstI ds] with
    | .okm (.imm _ .non) [o, _, _, t] => .ok o (ρ.set k t)
    | _ => .bad)
  | _, _, _ => .bad
def mklk (Fn : FnT) (c k : Nat) (ρ : List T) : Option T → Option T → Option T → ER T
  | some (.imm false d1), some (.imm false d2), some (.lstI ds) => (match Fn [.obj c [] [], .imm false d1, .imm false d2, .lstI ds] with
    | .okm (.imm _ .non) [o, _, _, t] => .ok o (ρ.set k t)
    | _ => .bad)
  | _, _, _ => .bad
def mkla (k : Nat) (ρ : List T) : FR → ER T
  | .okm (.imm _ .non) [o, _, _, t] => .ok o (ρ.set k t)
  | _ => .bad
theorem v_MakeL {Fn : FnT} {c i j k : Nat} : dMakeL Fn c i j k ρ = mklk Fn c k ρ ρ[i]? ρ[j]? ρ[k]? := rfl
theorem v_mklk {Fn : FnT} {c k : Nat} {d1 d2 : D} {ds : List D} : mklk Fn c k ρ (some (.imm false d1)) (some (.imm false d2)) (some (.lstI ds)) = mkla k ρ (Fn [.obj c [] [], .imm false d1, .imm false d2, .lstI ds]) := by
  unfold mklk mkla
  rfl
theorem v_mkla {k : Nat} {b : Bool} {o a1 a2 t : T} : mkla k ρ (.okm (.imm b .non) [o, a1, a2, t]) = .ok o (ρ.set k t) := rfl
end
end Gb

namespace L2
open PySem PySem.Spec PyProof.Rows
section
variable {X : Cx}
end
end L2
namespace Gb
open PySem PySem.Spec L2
section
variable {C : Ct} {W : WX} {w w' : Wd} {H H' : Hp} {σ σ' : L2.St} {Q : VK} {X : Cx} {ca : Cad} {ρ : List T} {t u : T}
/-! list.count of plain data -/
def cntL (d e : D) : Option Nat := match d.py, e.py with
  | some (.list qs), some p => if SeqAt.shaped (.list qs) && SeqAt.shaped p then some (qs.countP fun z => PyData.eqv z p) else none
  | _, _ => none
def lck2 (d : D) : T → List T → ER T
  | .imm _ e, ρ => (match cntL d e with
    | some j => .ok (.imm false (.int (j : Nat))) ρ
    | none => .bad)
  | _, _ => .bad
def lckc (db : DE) : T → List T → ER T
  | .imm _ (.lst ds), ρ => (db ρ).bind (lck2 (.lst ds))
  | _, _ => .bad
def dLCnt (da db : DE) : DE := fun ρ => (da ρ).bind (lckc db)
theorem v_LCnt {da db : DE} {ρ : List T} : dLCnt da db ρ = bnd (da ρ) (lckc db) := rfl
theorem v_lckc {db : DE} {ρ : List T} {b : Bool} {ds : List D} : lckc db (.imm b (.lst ds)) ρ = bnd (db ρ) (lck2 (.lst ds)) := rfl
theorem v_lck2 {ρ : List T} {b : Bool} {d e : D} {j : Nat} (h : cntL d e = some j) : lck2 d (.imm b e) ρ = .ok (.imm false (.int (j : Nat))) ρ := by
  unfold lck2
  simp only [h]
end
end Gb

namespace Gb
open PySem PySem.Spec L2
section
variable {C : Ct} {W : WX} {w w' : Wd} {H H' : Hp} {σ σ' : L2.St} {Q : VK} {X : Cx} {ca : Cad} {ρ : List T} {t u : T}
/-! d.pop(k) of an own dict, the key there -/
def dropN (k : Key) (ks : List Key) : List Key := ks.filter fun j => decide (j ≠ k)
def dropD (k : Key) : List Key → List D → List D
  | n :: ns, d :: ds => if n = k then dropD k ns ds else d :: dropD k ns ds
  | _, _ => []
def dpopk (i : Nat) : T → List T → ER T
  | .imm _ e, ρ => (match ρ[i]? with
    | some (.dicI ks ds) => (match keyD e with
      | some k => (match getK k ks ds with
        | some d => .ok (.imm false d) (ρ.set i (.dicI (dropN k ks) (dropD k ks ds)))
        | none => .bad)
      | none => .bad)
    | _ => .bad)
  | _, _ => .bad
def dDPop (i : Nat) (de : DE) : DE := fun ρ => match ρ[i]? with
  | some (.dicI _ _) => (de ρ).bind (dpopk i)
  | _ => .bad
def dpk (i : Nat) (de : DE) (ρ : List T) : Option T → ER T
  | some (.dicI _ _) => (de ρ).bind (dpopk i)
  | _ => .bad
def dpk2 (i : Nat) (e : D) (ρ : List T) : Option T → ER T
  | some (.dicI ks ds) => (match keyD e with
      | some k => (match getK k ks ds with
        | some d => .ok (.imm false d) (ρ.set i (.dicI (dropN k ks) (dropD k ks ds)))
        | none => .bad)
      | none => .bad)
  | _ => .bad
theorem v_DPop {i : Nat} {de : DE} : dDPop i de ρ = dpk i de ρ ρ[i]? := by
  unfold dDPop dpk
  rfl
theorem v_dpk {i : Nat} {de : DE} {ks : List Key} {ds : List D} : dpk i de ρ (some (.dicI ks ds)) = bnd (de ρ) (dpopk i) := rfl
theorem v_dpopk {i : Nat} {b : Bool} {e : D} : dpopk i (.imm b e) ρ = dpk2 i e ρ ρ[i]? := by
  unfold dpopk dpk2
  rfl
theorem v_dpk2 {i : Nat} {e d : D} {k : Key} {ks : List Key} {ds : List D} (h : keyD e = some k) (g : getK k ks ds = some d) : dpk2 i e ρ (some (.dicI ks ds)) = .ok (.imm false d) (ρ.set i (.dicI (dropN k ks) (dropD k ks ds))) := by
  unfold dpk2
  simp only [h, g]
end
end Gb

namespace L2
open PySem PySem.Spec PyProof.Rows
end L2
namespace Gb
open PySem PySem.Spec L2
section
variable {C : Ct} {W : WX} {w w' : Wd} {H H' : Hp} {σ σ' : L2.St} {Q : VK} {X : Cx} {ca : Cad} {ρ : List T} {t u : T} {pn : List Nat}
def keyT : Key → D
  | .inl i => .int i
  | .inr s => .str s
/-- for x in an own dict by whole numbers or texts: its keys; nobody changes it from then on -/
def diKeysO (i : Nat) : DI := fun ρ => match ρ[i]? with
  | some (.dicI ks ds) => if ks.length ≤ 16777216 then .ok (false, ks.map keyT) (ρ.set i (.imm false (.dic ks ds))) else .bad
  | _ => .bad
def dikk (i : Nat) (ρ : List T) : Option T → ER (Bool × List D)
  | some (.dicI ks ds) => if ks.length ≤ 16777216 then .ok (false, ks.map keyT) (ρ.set i (.imm false (.dic ks ds))) else .bad
  | _ => .bad
theorem v_KeysO {i : Nat} : diKeysO i ρ = dikk i ρ ρ[i]? := by
  unfold diKeysO dikk
  rfl
theorem v_dikk {i : Nat} {ks : List Key} {ds : List D} (h : ks.length ≤ 16777216) : dikk i ρ (some (.dicI ks ds)) = .ok (false, ks.map keyT) (ρ.set i (.imm false (.dic ks ds))) := if_pos h
end
end Gb

namespace Gb
open PySem PySem.Spec L2
/-! two names lent to one call: the inner one of them forgets the outer one, which is put back behind it -/
def lendD2 (j i : Nat) (t : T) (m : Nat) : ER T → ER T
  | .ok r ρ' => if noBs (r :: (ρ'.set i .dead).set j t) && decide (ρ'.length = m) && decide (i < m) then .ok r ((ρ'.set i .dead).set j t) else .bad
  | _ => .bad
def lendDk (j i : Nat) (de : DE) (ρ : List T) : Option T → ER T
  | some t => (match t.frz with
    | some (_, d) => lendD2 j i t ρ.length (de (ρ.set j (.imm true d)))
    | none => .bad)
  | none => .bad
def dLendD (j i : Nat) (de : DE) : DE := fun ρ => lendDk j i de ρ ρ[j]?
section
variable {C : Ct} {W : WX} {pn ch : List Nat} {w w' : Wd} {H H' : Hp} {σ σ' : L2.St} {En : Ends} {X : Cx} {ca : Cad} {ρ : List T} {t u : T} {v x : Option V}
theorem v_LendD {j i : Nat} {de : DE} : dLendD j i de ρ = lendDk j i de ρ ρ[j]? := rfl
theorem v_lendDk {j i : Nat} {de : DE} {b : Bool} {d : D} : lendDk j i de ρ (some (.imm b d)) = lendD2 j i (.imm b d) ρ.length (de (ρ.set j (.imm true d))) := rfl
theorem v_lendDk_lstI {j i : Nat} {de : DE} {ds : List D} : lendDk j i de ρ (some (.lstI ds)) = lendD2 j i (.lstI ds) ρ.length (de (ρ.set j (.imm true (.lst ds)))) := rfl
theorem v_lendDk_dicI {j i : Nat} {de : DE} {ks : List Key} {ds : List D} : lendDk j i de ρ (some (.dicI ks ds)) = lendD2 j i (.dicI ks ds) ρ.length (de (ρ.set j (.imm true (.dic ks ds)))) := rfl
theorem v_lendD2 {j i m : Nat} {r t : T} : lendD2 j i t m (.ok r ρ) = if noBs (r :: (ρ.set i .dead).set j t) && decide (ρ.length = m) && decide (i < m) then .ok r ((ρ.set i .dead).set j t) else .bad := rfl
theorem v_lendk_dicI {n : Nat} {de : DE} {ks : List Key} {ds : List D} : lendk n de ρ (some (.dicI ks ds)) = lend2 n (.dicI ks ds) ρ.length (de (ρ.set n (.imm true (.dic ks ds)))) := rfl
theorem v_noB_dicI {ks : List Key} {ds : List D} : noB (.dicI ks ds) = true := rfl
end
end Gb

namespace Gb
open PySem PySem.Spec L2
/-! own dicts whose keys are whole numbers and None -/
section
variable {C : Ct} {W : WX} {pn ch : List Nat} {w w' : Wd} {H H' : Hp} {σ σ' : L2.St} {En : Ends} {X : Cx} {ca : Cad} {ρ : List T} {t u : T} {v x : Option V}
def oKey : D → Option OKey
  | .non => some none
  | .int i => some (some i)
  | _ => none
def getOD (k : OKey) : List OKey → List D → Option D
  | n :: ns, d :: ds => if n = k then some d else getOD k ns ds
  | _, _ => none
def putOk (k : OKey) : List OKey → List OKey
  | [] => [k]
  | n :: ns => if n = k then n :: ns else n :: putOk k ns
def putOd (k : OKey) (d : D) : List OKey → List D → List D
  | n :: ns, x :: xs => if n = k then d :: xs else x :: putOd k d ns xs
  | _, _ => [d]
/-! {} and {None: None} -/
def dONew : DE := fun ρ => .ok (.dic [] []) ρ
def dO1 : DE := fun ρ => .ok (.dic [none] [.non]) ρ
/-! k in name, k not in name, name[k], name[k] = v -/
def oik2 (neg : Bool) (ρ : List T) : Option T → Option OKey → ER T
  | some (.dic ks ds), some k => .ok (.imm false (.bl (if neg = true then !(getOD k ks ds).isSome else (getOD k ks ds).isSome))) ρ
  | _, _ => .bad
def oink (i : Nat) (neg : Bool) : T → List T → ER T
  | .imm _ e, ρ => oik2 neg ρ ρ[i]? (oKey e)
  | _, _ => .bad
def dOIn (i : Nat) (neg : Bool) (de : DE) : DE := fun ρ => (de ρ).bind (oink i neg)
def ogk2 (ρ : List T) : Option T → Option OKey → ER T
  | some (.dic ks ds), some k => (match getOD k ks ds with
    | some d => .ok (.imm false d) ρ
    | none => .bad)
  | _, _ => .bad
def ogk (i : Nat) : T → List T → ER T
  | .imm _ e, ρ => ogk2 ρ ρ[i]? (oKey e)
  | _, _ => .bad
def ogk0 (i : Nat) (de : DE) (ρ : List T) : Option T → ER T
  | some (.dic _ _) => (de ρ).bind (ogk i)
  | _ => .bad
def dOGet (i : Nat) (de : DE) : DE := fun ρ => ogk0 i de ρ ρ[i]?
def opk3 (i : Nat) (d : D) (ρ2 : List T) : Option T → Option OKey → SR
  | some (.dic ks ds), some k => if ks.length < 16777216 then .next (ρ2.set i (.dic (putOk k ks) (putOd k d ks ds))) else .bad
  | _, _ => .bad
def opk2 (i : Nat) (d : D) : ER T → SR
  | .ok (.imm _ e) ρ2 => opk3 i d ρ2 ρ2[i]? (oKey e)
  | _ => .bad
def opk1 (i : Nat) (dk : DE) (ρ1 : List T) : Option T → Option (Bool × D) → SR
  | some (.dic _ _), some (false, d) => opk2 i d (dk ρ1)
  | _, _ => .bad
def opk0 (i : Nat) (dk : DE) : T → List T → SR := fun t ρ1 => opk1 i dk ρ1 ρ1[i]? t.frz
def dOPut (i : Nat) (dk de : DE) : DS := dEx de (opk0 i dk)
theorem v_ONew : dONew ρ = .ok (.dic [] []) ρ := rfl
theorem v_O1 : dO1 ρ = .ok (.dic [none] [.non]) ρ := rfl
theorem v_OIn {i : Nat} {neg : Bool} {de : DE} : dOIn i neg de ρ = bnd (de ρ) (oink i neg) := rfl
theorem v_oink {i : Nat} {neg b : Bool} {e : D} : oink i neg (.imm b e) ρ = oik2 neg ρ ρ[i]? (oKey e) := rfl
theorem v_oik2_f {ks : List OKey} {ds : List D} {k : OKey} : oik2 false ρ (some (.dic ks ds)) (some k) = .ok (.imm false (.bl (getOD k ks ds).isSome)) ρ := rfl
theorem v_oik2_t {ks : List OKey} {ds : List D} {k : OKey} : oik2 true ρ (some (.dic ks ds)) (some k) = .ok (.imm false (.bl (!(getOD k ks ds).isSome))) ρ := rfl
theorem v_oKey_non : oKey .non = some none := rfl
theorem v_oKey_int {i : Int} : oKey (.int i) = some (some i) := rfl
theorem v_OGet {i : Nat} {de : DE} : dOGet i de ρ = ogk0 i de ρ ρ[i]? := rfl
theorem v_ogk0 {i : Nat} {de : DE} {ks : List OKey} {ds : List D} : ogk0 i de ρ (some (.dic ks ds)) = bnd (de ρ) (ogk i) := rfl
theorem v_ogk {i : Nat} {b : Bool} {e : D} : ogk i (.imm b e) ρ = ogk2 ρ ρ[i]? (oKey e) := rfl
theorem v_ogk2 {ks : List OKey} {ds : List D} {k : OKey} {d : D} (h : getOD k ks ds = some d) : ogk2 ρ (some (.dic ks ds)) (some k) = .ok (.imm false d) ρ := by
  unfold ogk2
  simp only [h]
theorem v_OPut {i : Nat} {dk de : DE} : dOPut i dk de ρ = exk (de ρ) (opk0 i dk) := by
  show dEx de _ ρ = _
  unfold dEx exk
  cases de ρ with
  | ok t ρ1 => rfl
  | exc e ρ1 => rfl
  | bad => rfl
theorem v_opk0 {i : Nat} {dk : DE} {b : Bool} {d : D} : opk0 i dk (.imm b d) ρ = opk1 i dk ρ ρ[i]? (some (b, d)) := rfl
theorem v_opk1 {i : Nat} {dk : DE} {ks : List OKey} {ds : List D} {d : D} : opk1 i dk ρ (some (.dic ks ds)) (some (false, d)) = opk2 i d (dk ρ) := rfl
theorem v_opk2 {i : Nat} {b : Bool} {d e : D} : opk2 i d (.ok (.imm b e) ρ) = opk3 i d ρ ρ[i]? (oKey e) := rfl
theorem v_opk3 {i : Nat} {ks : List OKey} {ds : List D} {k : OKey} {d : D} (h : ks.length < 16777216) : opk3 i d ρ (some (.dic ks ds)) (some k) = .next (ρ.set i (.dic (putOk k ks) (putOd k d ks ds))) := if_pos h
theorem v_noB_dic {ks : List OKey} {ds : List D} : noB (.dic ks ds) = true := rfl
end
end Gb

namespace Gb
open PySem PySem.Spec L2
section
variable {C : Ct} {W : WX} {pn ch : List Nat} {w w' : Wd} {H H' : Hp} {σ σ' : L2.St} {En : Ends} {X : Cx} {ca : Cad} {ρ : List T} {t u : T} {v x : Option V}
/-! name.clear() of a list of own things, name[j].clear() -/
theorem Stt.wipe {ts : List T} {p : Addr} (h : Stt C w H (.lst ts :: ρ) (some (.ref p) :: σ)) : ∃ vs, H p = some (.lst vs) ∧ After w H w (upd H p (.lst [])) ∧ Stt C w (upd H p (.lst [])) (.lstI [] :: ρ) (some (.ref p) :: σ) := by
  obtain ⟨F, ⟨v0, r0, f1, f2, e, ⟨a, vs, f, e3, g, rd, rfl⟩, h2, rfl⟩, nd, out, tr, tb⟩ := h
  injection e with e1 e2
  subst e1; subst e2
  cases e3
  have op := out p (by simp)
  have ne : ∀ b, (w.I b ∨ w.B b ∨ w.R b) → b ≠ p := fun b z e => by
    subst e
    rcases z with z | z | z
    · exact op.1 z
    · exact op.2.1 z
    · exact op.2.2 z
  have nf : ∀ b ∈ f2, b ≠ p := fun b hb e => by
    subst e
    exact (List.nodup_append.mp nd).2.2 b (by simp) b hb rfl
  refine ⟨vs, g, ⟨fun _ z => z, rfl, rfl, fun _ z => .inl z, fun b z => upd_ne (ne b z)⟩, [p] ++ f2, ⟨_, σ, [p], f2, rfl, ⟨p, [], rfl, upd_same, rfl, rfl⟩, ?_, rfl⟩, ?_, fun b hb => ?_, fun b z => ?_, tabs_wr tb g⟩
  · exact RTs_mono (w := w) (H := H) (fun b z => ⟨z, upd_ne (ne b (.inl z))⟩) (fun b z => ⟨z, upd_ne (ne b (.inr (.inl z)))⟩) _ _ _ (fun b hb => upd_ne (nf b hb)) h2
  · exact List.nodup_cons.mpr ⟨fun z => nf p z rfl, (List.nodup_append.mp nd).2.1⟩
  · rcases List.mem_append.mp hb with hb | hb
    · rw [List.mem_singleton.mp hb]; exact op
    · exact out b (List.mem_append_right _ hb)
  · rw [upd_ne (ne b z)]; exact tr b z
def clro (i : Nat) (ρ : List T) : Option (List T) → ER T
  | some _ => .ok (.imm false .non) (ρ.set i (.lstI []))
  | none => .bad
def dClearO (i : Nat) : DE := fun ρ => clro i ρ ((ρ[i]?).bind asO)
def clr2b (i : Nat) (ρ : List T) (ts : List T) : Option (Nat × List D) → ER T
  | some (jn, _) => .ok (.imm false .non) (ρ.set i (.lst (ts.set jn (.lstI []))))
  | none => .bad
def clr2a (i : Nat) (j : Int) (ρ : List T) : Option (List T) → ER T
  | some ts => clr2b i ρ ts (inner ts j)
  | none => .bad
def clr2 (i : Nat) : T → List T → ER T
  | .imm _ (.int j), ρ => clr2a i j ρ ((ρ[i]?).bind asO)
  | _, _ => .bad
def clr20 (i : Nat) (dj : DE) (ρ : List T) : Option (List T) → ER T
  | some _ => (dj ρ).bind (clr2 i)
  | none => .bad
def dClear2 (i : Nat) (dj : DE) : DE := fun ρ => clr20 i dj ρ ((ρ[i]?).bind asO)
theorem v_ClearO {i : Nat} : dClearO i ρ = clro i ρ ((ρ[i]?).bind asO) := rfl
theorem v_clro {i : Nat} {ts : List T} : clro i ρ (some ts) = .ok (.imm false .non) (ρ.set i (.lstI [])) := rfl
theorem v_Clear2 {i : Nat} {dj : DE} : dClear2 i dj ρ = clr20 i dj ρ ((ρ[i]?).bind asO) := rfl
theorem v_clr20 {i : Nat} {dj : DE} {ts : List T} : clr20 i dj ρ (some ts) = bnd (dj ρ) (clr2 i) := rfl
theorem v_clr2 {i : Nat} {b : Bool} {j : Int} : clr2 i (.imm b (.int j)) ρ = clr2a i j ρ ((ρ[i]?).bind asO) := rfl
theorem v_clr2a {i : Nat} {j : Int} {ts : List T} : clr2a i j ρ (some ts) = clr2b i ρ ts (inner ts j) := rfl
theorem v_clr2b {i jn : Nat} {ts : List T} {ds : List D} : clr2b i ρ ts (some (jn, ds)) = .ok (.imm false .non) (ρ.set i (.lst (ts.set jn (.lstI [])))) := rfl
end
end Gb

namespace Gb
open PySem PySem.Spec L2
section
variable {C : Ct} {W : WX} {pn ch : List Nat} {w w' : Wd} {H H' : Hp} {σ σ' : L2.St} {En : Ends} {X : Cx} {ca : Cad} {ρ : List T} {t u : T} {v x : Option V}
/-! for a, b in a lent list: what hangs on no address is one's own -/
def dgConsI (g : DG) (r : DGs) : DGs := fun b ds ρ => match ds with
  | [] => none
  | d :: ds => match g (itm b d) ρ with
    | some ρ' => r b ds ρ'
    | none => none
theorem v_gConsI {b : Bool} {d : D} {ds : List D} {g : DG} {r : DGs} : dgConsI g r b (d :: ds) ρ = gck r b ds (g (itm b d) ρ) := by
  unfold dgConsI gck
  rfl
end
end Gb

namespace Gb
open PySem PySem.Spec L2
section
variable {X : Cx} {ca : Cad} {ρ : List T} {t u o : T}
/-! own things of a class that change: how they are walked -/
theorem v_FldO {i : Nat} {f : Str} {ok : Nat → Bool} : dFldO i f ok ρ = fldo i f ok ρ ρ[i]? := rfl
theorem v_fldo {i k c : Nat} {f : Str} {ok : Nat → Bool} {ns : List Str} {ts : List T} {b : Bool} {d : D} (h1 : ok c = true) (h2 : ixF f ns = some k) (h3 : ts[k]? = some (.imm b d)) : fldo i f ok ρ (some (.obj c ns ts)) = .ok (.imm b d) (ρ.set i (.obj c ns (ts.set k (.imm b d)))) := by
  unfold fldo
  simp only [h1, if_true, h2, h3]
  rfl
def putfk (i : Nat) (f : Str) (ok : Nat → Bool) : ER T → SR
  | .ok t ρ1 => putk i f ok t ρ1 ρ1[i]?
  | .exc e ρ1 => .exc e ρ1
  | .bad => .bad
theorem v_PutF {i : Nat} {f : Str} {ok : Nat → Bool} {de : DE} : dPutF i f ok de ρ = putfk i f ok (de ρ) := by
  unfold dPutF putfk
  cases de ρ <;> rfl
theorem v_putfk {i : Nat} {f : Str} {ok : Nat → Bool} : putfk i f ok (.ok t ρ) = putk i f ok t ρ ρ[i]? := rfl
theorem v_putfk_exc {i : Nat} {f : Str} {ok : Nat → Bool} {e : Ex} : putfk i f ok (.exc e ρ) = .exc e ρ := rfl
theorem v_putk {i k c : Nat} {f : Str} {ok : Nat → Bool} {ns : List Str} {ts : List T} (h1 : ok c = true ∧ ns.length < 1000) (h2 : ixF f ns = some k) (h3 : k < ts.length) : putk i f ok t ρ (some (.obj c ns ts)) = .next (ρ.set i (.obj c ns (ts.set k t))) := by
  unfold putk
  simp only [h1, and_self, if_true, h2, h3]
theorem v_MethO0 {i : Nat} {m : Str} {c : Nat} {Fn : FnT} {ds : List D} : dMethO0 i m c Fn ds ρ = metho i m c Fn ds [] ρ ρ[i]? := rfl
def methok (i : Nat) (m : Str) (c : Nat) (Fn : FnT) (ds : List D) (ts ρ1 : List T) : ER T := metho i m c Fn ds ts ρ1 ρ1[i]?
def methOq (i : Nat) (m : Str) (c : Nat) (Fn : FnT) (ds : List D) (da : DA) (ρ : List T) (b : Bool) : ER T := if b = true then bnd (da ρ) (methok i m c Fn ds) else .bad
theorem v_MethO {i : Nat} {m : Str} {c : Nat} {Fn : FnT} {ds : List D} {da : DA} : dMethO i m c Fn ds da ρ = methOq i m c Fn ds da ρ (isO m c ρ[i]?) := rfl
theorem v_methOq {i : Nat} {m : Str} {c : Nat} {Fn : FnT} {ds : List D} {da : DA} : methOq i m c Fn ds da ρ true = bnd (da ρ) (methok i m c Fn ds) := rfl
theorem v_methok {i : Nat} {m : Str} {c : Nat} {Fn : FnT} {ds : List D} {ts : List T} : methok i m c Fn ds ts ρ = metho i m c Fn ds ts ρ ρ[i]? := rfl
theorem v_afterO {i : Nat} {os : List T} : afterO i ρ (.okm t (o :: os)) = .ok t (ρ.set i o) := rfl
theorem v_afterO_exc {i : Nat} {os : List T} {e : Ex} : afterO i ρ (.excm e (o :: os)) = .exc e (ρ.set i o) := rfl
theorem v_finX_next {n : Nat} : finX n (.next ρ) = .okm (.imm false .non) (ρ.take n) := rfl
theorem v_finX_ret {n : Nat} : finX n (.ret t ρ) = .okm t (ρ.take n) := rfl
theorem v_finX_exc {n : Nat} {e : Ex} : finX n (.exc e ρ) = .excm e (ρ.take n) := rfl
end
end Gb

namespace Gb
open PySem PySem.Spec L2
section
variable {C : Ct} {W : WX} {pn ch : List Nat} {w w' : Wd} {H H' : Hp} {σ σ' : L2.St} {En : Ends} {X : Cx} {ca : Cad} {ρ : List T} {t u : T} {v x : Option V}
/-! a text in a tuple of texts -/
def gInU : D → D → Option D
  | .str s, .tup ds => (strsD ds).map fun ts => .bl (decide (s ∈ ts))
  | _, _ => none
def gNinU : D → D → Option D
  | .str s, .tup ds => (strsD ds).map fun ts => .bl (!decide (s ∈ ts))
  | _, _ => none
theorem v_gNinU {s : Str} {ds : List D} {ts : List Str} (h : strsD ds = some ts) : gNinU (.str s) (.tup ds) = some (.bl (!decide (s ∈ ts))) := by
  show (strsD ds).map _ = _
  rw [h]; rfl
theorem v_gInU {s : Str} {ds : List D} {ts : List Str} (h : strsD ds = some ts) : gInU (.str s) (.tup ds) = some (.bl (decide (s ∈ ts))) := by
  show (strsD ds).map _ = _
  rw [h]; rfl
end
end Gb

namespace Gb
open PySem PySem.Spec L2
section
variable {C : Ct} {W : WX} {pn ch : List Nat} {w w' : Wd} {H H' : Hp} {σ σ' : L2.St} {En : Ends} {X : Cx} {ca : Cad} {ρ : List T} {t u : T} {v x : Option V}
/-! own dicts by texts, as states: {..}, s["k"], s["k"] = v, and defs that change one that they are given -/
def dDicS (a b c : Str) (i j : Int) : DE := fun ρ => if a ≠ b ∧ a ≠ c ∧ b ≠ c then .ok (.dicI [.inr a, .inr b, .inr c] [.int i, .int j, .non]) ρ else .bad
def dKGet (i : Nat) (k : Str) : DE := fun ρ => match ρ[i]? with
  | some (.dicI ks ds) => (match getK (.inr k) ks ds with
    | some d => .ok (.imm false d) ρ
    | none => .bad)
  | _ => .bad
def setD (k : Key) (d : D) : List Key → List D → List D
  | n :: ns, x :: xs => if n = k then d :: setD k d ns xs else x :: setD k d ns xs
  | _, _ => []
def kput1 (i : Nat) (k : Str) (ρ1 : List T) : Option T → Option (Bool × D) → SR
  | some (.dicI ks ds), some (false, d) => if (getK (.inr k) ks ds).isSome = true ∧ ks.length < 16777216 then .next (ρ1.set i (.dicI ks (setD (.inr k) d ks ds))) else .bad
  | _, _ => .bad
def kput0 (i : Nat) (k : Str) : T → List T → SR := fun t ρ1 => kput1 i k ρ1 ρ1[i]? t.frz
def dKPut (i : Nat) (k : Str) (de : DE) : DS := dEx de (kput0 i k)
/-! F(s) and F(xs, s, ..): s is changed by it -/
def isDic : Option T → Bool
  | some (.dicI _ _) => true
  | _ => false
def callS1 (i : Nat) (Fn : FnT) (ρ : List T) : Option T → ER T
  | some (.dicI ks ds) => afterO i ρ (Fn [.dicI ks ds])
  | _ => .bad
def dCallS1 (i : Nat) (Fn : FnT) : DE := fun ρ => callS1 i Fn ρ ρ[i]?
def afterS (i : Nat) (ρ1 : List T) : FR → ER T
  | .okm t (_ :: o :: _) => .ok t (ρ1.set i o)
  | .excm e (_ :: o :: _) => .exc e (ρ1.set i o)
  | _ => .bad
def callS3 (i : Nat) (Fn : FnT) (ats ρ1 : List T) : Option T → Option T → ER T
  | some (.imm b d), some (.dicI ks ds) => afterS i ρ1 (Fn (.imm b d :: .dicI ks ds :: ats))
  | _, _ => .bad
def isImm : Option T → Bool
  | some (.imm _ _) => true
  | _ => false
def dCallS2 (j i : Nat) (Fn : FnT) (da : DA) : DE := fun ρ => if isImm ρ[j]? = true ∧ isDic ρ[i]? = true then (da ρ).bind fun ts ρ1 => callS3 i Fn ts ρ1 ρ1[j]? ρ1[i]? else .bad
/-! how these are walked -/
theorem v_DicS {a b c : Str} {i j : Int} (h1 : ¬ a = b) (h2 : ¬ a = c) (h3 : ¬ b = c) : dDicS a b c i j ρ = .ok (.dicI [.inr a, .inr b, .inr c] [.int i, .int j, .non]) ρ := if_pos ⟨h1, h2, h3⟩
def kgk (k : Str) (ρ : List T) : Option T → ER T
  | some (.dicI ks ds) => (match getK (.inr k) ks ds with
    | some d => .ok (.imm false d) ρ
    | none => .bad)
  | _ => .bad
theorem v_KGet {i : Nat} {k : Str} : dKGet i k ρ = kgk k ρ ρ[i]? := by
  unfold dKGet kgk
  rfl
theorem v_kgk {k : Str} {ks : List Key} {ds : List D} {d : D} (h : getK (.inr k) ks ds = some d) : kgk k ρ (some (.dicI ks ds)) = .ok (.imm false d) ρ := by
  unfold kgk
  simp only [h]
theorem v_KPut {i : Nat} {k : Str} {de : DE} : dKPut i k de ρ = exk (de ρ) (kput0 i k) := by
  show dEx de _ ρ = _
  unfold dEx exk
  cases de ρ with
  | ok t ρ1 => rfl
  | exc e ρ1 => rfl
  | bad => rfl
theorem v_kput0 {i : Nat} {k : Str} {d : D} : kput0 i k (.imm false d) ρ = kput1 i k ρ ρ[i]? (some (false, d)) := rfl
theorem v_kput1 {i : Nat} {k : Str} {d : D} {ks : List Key} {ds : List D} (h : (getK (.inr k) ks ds).isSome = true ∧ ks.length < 16777216) : kput1 i k ρ (some (.dicI ks ds)) (some (false, d)) = .next (ρ.set i (.dicI ks (setD (.inr k) d ks ds))) := if_pos h
theorem v_CallS1 {i : Nat} {Fn : FnT} : dCallS1 i Fn ρ = callS1 i Fn ρ ρ[i]? := rfl
theorem v_callS1 {i : Nat} {Fn : FnT} {ks : List Key} {ds : List D} : callS1 i Fn ρ (some (.dicI ks ds)) = afterO i ρ (Fn [.dicI ks ds]) := rfl
def callS2q (j i : Nat) (Fn : FnT) (da : DA) (ρ : List T) (b1 b2 : Bool) : ER T := if b1 = true ∧ b2 = true then bnd (da ρ) (fun ts ρ1 => callS3 i Fn ts ρ1 ρ1[j]? ρ1[i]?) else .bad
def callS2k (j i : Nat) (Fn : FnT) (ts ρ1 : List T) : ER T := callS3 i Fn ts ρ1 ρ1[j]? ρ1[i]?
theorem v_CallS2 {j i : Nat} {Fn : FnT} {da : DA} : dCallS2 j i Fn da ρ = callS2q j i Fn da ρ (isImm ρ[j]?) (isDic ρ[i]?) := rfl
theorem v_callS2q {j i : Nat} {Fn : FnT} {da : DA} : callS2q j i Fn da ρ true true = bnd (da ρ) (callS2k j i Fn) := rfl
theorem v_callS2k {j i : Nat} {Fn : FnT} {ts : List T} : callS2k j i Fn ts ρ = callS3 i Fn ts ρ ρ[j]? ρ[i]? := rfl
theorem v_isImm {b : Bool} {d : D} : isImm (some (.imm b d)) = true := rfl
theorem v_isDic {ks : List Key} {ds : List D} : isDic (some (.dicI ks ds)) = true := rfl
theorem v_callS3 {i : Nat} {Fn : FnT} {ats : List T} {b : Bool} {d : D} {ks : List Key} {ds : List D} : callS3 i Fn ats ρ (some (.imm b d)) (some (.dicI ks ds)) = afterS i ρ (Fn (.imm b d :: .dicI ks ds :: ats)) := rfl
theorem v_afterS {i : Nat} {o u : T} {os : List T} : afterS i ρ (.okm t (u :: o :: os)) = .ok t (ρ.set i o) := rfl
theorem v_afterS_exc {i : Nat} {o u : T} {os : List T} {e : Ex} : afterS i ρ (.excm e (u :: o :: os)) = .exc e (ρ.set i o) := rfl
theorem v_mkFnX {N m : Nat} {body : DS} {ts : List T} : mkFnX N m body ts = if ts.length = m then finX m (body (ts ++ List.replicate (N - m) .dead)) else .bad := rfl
/-! a text in a list of texts, a truth in a list of truths -/
def blsD : List D → Option (List Bool)
  | [] => some []
  | .bl s :: r => (blsD r).map (s :: ·)
  | _ => none
theorem blsD_map : ∀ bs : List Bool, blsD (bs.map D.bl) = some bs
  | [] => rfl
  | b :: bs => by
    rw [List.map_cons]
    show (blsD (bs.map D.bl)).map (b :: ·) = _
    rw [blsD_map bs]; rfl
def gInL : D → D → Option D
  | .str s, .lst ds => (strsD ds).map fun ts => .bl (decide (s ∈ ts))
  | .bl s, .lst ds => (blsD ds).map fun ts => .bl (decide (s ∈ ts))
  | _, _ => none
def gNinL : D → D → Option D
  | .str s, .lst ds => (strsD ds).map fun ts => .bl (!decide (s ∈ ts))
  | .bl s, .lst ds => (blsD ds).map fun ts => .bl (!decide (s ∈ ts))
  | _, _ => none
theorem v_gNinL {s : Str} {ds : List D} {ts : List Str} (h : strsD ds = some ts) : gNinL (.str s) (.lst ds) = some (.bl (!decide (s ∈ ts))) := by
  show (strsD ds).map _ = _
  rw [h]; rfl
theorem v_gInL_bl {b : Bool} {bs : List Bool} : gInL (.bl b) (.lst (bs.map D.bl)) = some (.bl (decide (b ∈ bs))) := by
  show (blsD (bs.map D.bl)).map _ = _
  rw [blsD_map bs]; rfl
end
end Gb

namespace Gb
open PySem PySem.Spec L2 PyProof.Rows
/-! exceptions made as values -/
section
variable {C : Ct} {W : WX} {pn ch : List Nat} {w w' : Wd} {H H' : Hp} {σ σ' : L2.St} {En : Ends} {X : Cx} {ca : Cad} {ρ : List T} {t u : T} {v x : Option V}
def mkek (k : Nat) (ns : List Str) : List T → List T → ER T := fun ts ρ => match unBs ts with
  | some ds => if ds.length = ns.length ∧ 0 < ns.length ∧ ns.length ≤ 900 then .ok (.imm false (.exv k ns.reverse ds.reverse)) ρ else .bad
  | none => .bad
def dMkE (k : Nat) (ns : List Str) (da : DA) : DE := fun ρ => (da ρ).bind (mkek k ns)
def mke0k (k : Nat) : T → DE := fun _ ρ => .ok (.imm false (.exv k [] [])) ρ
def dMkE0 (k : Nat) (de : DE) : DE := d1 (mke0k k) de
/-! isinstance(o, C) -/
def isVk (r : Nat → Option Bool) : T → DE
  | .imm b (.exv c ns us) => fun ρ => match r c with
    | some v => .ok (.imm false (.bl v)) ρ
    | none => .bad
  | _ => fun _ => .bad
def dIsV (r : Nat → Option Bool) (de : DE) : DE := d1 (isVk r) de
/-! e.field -/
def xvk (f : Str) (ok : Nat → Bool) : T → DE
  | .imm b (.exv c ns vs) => fun ρ => if ok c = true ∧ ns ≠ [] then (match lookF f ns vs with
    | some d => .ok (.imm b d) ρ
    | none => .bad) else .bad
  | _ => fun _ => .bad
def dXv (de : DE) (f : Str) (ok : Nat → Bool) : DE := d1 (xvk f ok) de
theorem v_MkE {k : Nat} {ns : List Str} {da : DA} : dMkE k ns da ρ = bnd (da ρ) (mkek k ns) := rfl
theorem v_mkek1 {k : Nat} {f : Str} {d : D} : mkek k [f] [.imm false d] ρ = .ok (.imm false (.exv k [f] [d])) ρ := rfl
theorem v_mkek2 {k : Nat} {f g : Str} {d e : D} : mkek k [f, g] [.imm false d, .imm false e] ρ = .ok (.imm false (.exv k [g, f] [e, d])) ρ := rfl
theorem v_MkE0 {k : Nat} {de : DE} : dMkE0 k de ρ = bnd (de ρ) (mke0k k) := rfl
theorem v_mke0k {k : Nat} {t : T} : mke0k k t ρ = .ok (.imm false (.exv k [] [])) ρ := rfl
theorem v_IsV {r : Nat → Option Bool} {de : DE} : dIsV r de ρ = bnd (de ρ) (isVk r) := rfl
theorem v_isVk {r : Nat → Option Bool} {b : Bool} {c : Nat} {ns : List Str} {us : List D} {a : Bool} (h : r c = some a) : isVk r (.imm b (.exv c ns us)) ρ = .ok (.imm false (.bl a)) ρ := by
  unfold isVk
  simp only [h]
theorem v_Xv {de : DE} {f : Str} {ok : Nat → Bool} : dXv de f ok ρ = bnd (de ρ) (xvk f ok) := rfl
theorem v_xvk {f : Str} {ok : Nat → Bool} {b : Bool} {c : Nat} {ns : List Str} {vs : List D} {d : D} (h : ok c = true ∧ ns ≠ [] ∧ lookF f ns vs = some d) : xvk f ok (.imm b (.exv c ns vs)) ρ = .ok (.imm b d) ρ := by
  show (if ok c = true ∧ ns ≠ [] then (match lookF f ns vs with
    | some d => (ER.ok (T.imm b d) ρ : ER T)
    | none => .bad) else .bad) = _
  rw [if_pos ⟨h.1, h.2.1⟩, h.2.2]
end
end Gb

namespace Gb
open PySem PySem.Spec L2
section
variable {C : Ct} {W : WX} {pn ch : List Nat} {w w' : Wd} {H H' : Hp} {σ σ' : L2.St} {En : Ends} {X : Cx} {ca : Cad} {ρ : List T} {t u o : T} {v x : Option V}
/-! a display of a dict with texts for keys -/
def dVals : List DE → List T → ER (List D)
  | [], ρ => .ok [] ρ
  | de :: r, ρ => match de ρ with
    | .ok t ρ1 => (match t.frz with
      | some (false, d) => (match dVals r ρ1 with
        | .ok ds ρ2 => .ok (d :: ds) ρ2
        | .exc e ρ2 => .exc e ρ2
        | .bad => .bad)
      | _ => .bad)
    | .exc e ρ1 => .exc e ρ1
    | .bad => .bad
inductive SPs (X : Cx) (ca : Cad) (W : WX) : List (Option Expr) → List Expr → List Str → List DE → Prop
  | nil : SPs X ca W [] [] [] []
  | cons {k : Str} {j : Nat} {p : Pos} {e : Expr} {de : DE} {keys : List (Option Expr)} {vals : List Expr} {ks : List Str} {des : List DE} : SE X ca W e de → SPs X ca W keys vals ks des → SPs X ca W (some (.Constant (.str k) j p) :: keys) (e :: vals) (k :: ks) (de :: des)
theorem SPs.len {keys : List (Option Expr)} {vals : List Expr} {ks : List Str} {des : List DE} (h : SPs X ca W keys vals ks des) : keys.length = vals.length ∧ (keys.all fun x => x.isSome) = true ∧ keys.length = ks.length ∧ ks.length = des.length := by
  induction h with
  | nil => exact ⟨rfl, rfl, rfl, rfl⟩
  | cons he _ ih =>
    obtain ⟨a, b, c, d⟩ := ih
    exact ⟨by simp [a], by simpa using b, by simp [c], by simp [d]⟩
def dDicN (ks : List Str) (des : List DE) : DE := fun ρ => match dVals des ρ with
  | .ok ds ρ1 => if ks.Nodup ∧ ks.length ≤ 15 ∧ 0 < ks.length ∧ ds.length = ks.length then .ok (.dicI (ks.map Sum.inr) ds) ρ1 else .bad
  | .exc e ρ1 => .exc e ρ1
  | .bad => .bad
/-! s[e] -/
def dKGetE (i : Nat) (de : DE) : DE := fun ρ => match ρ[i]? with
  | some (.dicI _ _) => (de ρ).bind fun t ρ1 => (match t, ρ1[i]? with
    | .imm _ (.str k), some (.dicI ks ds) => (match getK (.inr k) ks ds with
      | some d => .ok (.imm false d) ρ1
      | none => .bad)
    | _, _ => .bad)
  | _ => .bad
/-! s["k"] = v, the key there or not -/
def kputA1 (i : Nat) (k : Str) (ρ1 : List T) : Option T → Option (Bool × D) → SR
  | some (.dicI ks ds), some (false, d) => if ks.length < 1000 ∧ ds.length = ks.length then .next (ρ1.set i (if (getK (.inr k) ks ds).isSome then .dicI ks (setD (.inr k) d ks ds) else .dicI (ks ++ [.inr k]) (ds ++ [d]))) else .bad
  | _, _ => .bad
def kputA0 (i : Nat) (k : Str) : T → List T → SR := fun t ρ1 => kputA1 i k ρ1 ρ1[i]? t.frz
def dKPutA (i : Nat) (k : Str) (de : DE) : DS := dEx de (kputA0 i k)
end
end Gb

namespace Gb
open PySem PySem.Spec L2
section
variable {C : Ct} {W : WX} {pn ch : List Nat} {w w' : Wd} {H H' : Hp} {σ σ' : L2.St} {En : Ends} {X : Cx} {ca : Cad} {ρ : List T} {t u o : T} {v x : Option V}
/-! own things lent to a def that changes them and gives them back -/
def ownT : T → Bool
  | .lstI _ => true
  | .lst _ => true
  | .dicI _ _ => true
  | .dic _ _ => true
  | .dkt _ => true
  | .obj _ _ _ => true
  | .tup _ => true
  | .dct _ _ => true
  | _ => false
def ownO : Option T → Bool
  | some t => ownT t
  | none => false
/-! F(s, e, ..) -/
def callO1k (i : Nat) (Fn : FnT) (ats ρ1 : List T) (y : Option T) : ER T := match y with
  | some t => if ownT t = true then afterO i ρ1 (Fn (t :: ats)) else .bad
  | none => .bad
def dCallO1 (i : Nat) (Fn : FnT) (da : DA) : DE := fun ρ => if ownO ρ[i]? = true then (da ρ).bind fun ts ρ1 => callO1k i Fn ts ρ1 ρ1[i]? else .bad
/-! two things lent -/
def gTwo (f : T → T → List T) : FR → ER T
  | .okm r (o1 :: o2 :: _) => .ok r (f o1 o2)
  | .excm e (o1 :: o2 :: _) => .exc e (f o1 o2)
  | _ => .bad
/-! F(a, b, e, ..) -/
def callO2k (i j : Nat) (Fn : FnT) (ats ρ1 : List T) (y z : Option T) : ER T := match y, z with
  | some t, some u => if ownT t = true ∧ ownT u = true ∧ i ≠ j then gTwo (fun o1 o2 => (ρ1.set i o1).set j o2) (Fn (t :: u :: ats)) else .bad
  | _, _ => .bad
def dCallO2 (i j : Nat) (Fn : FnT) (da : DA) : DE := fun ρ => if ownO ρ[i]? = true ∧ ownO ρ[j]? = true then (da ρ).bind fun ts ρ1 => callO2k i j Fn ts ρ1 ρ1[i]? ρ1[j]? else .bad
/-! an item of an own list taken out, its place kept by its address, and put back -/
/-! F(xs[m], ys[m], e, ..) -/
def itm2 (m j1 j2 : Nat) (ρ : List T) : Option (Nat × List T × List T × T × T) := match ρ[m]?, ρ[j1]?, ρ[j2]? with
  | some (.imm _ (.int k)), some (.lst ts1), some (.lst ts2) => (match ts1[k.toNat]?, ts2[k.toNat]? with
    | some t, some u => if 0 ≤ k ∧ ownT t = true ∧ ownT u = true ∧ j1 ≠ j2 then some (k.toNat, ts1, ts2, t, u) else none
    | _, _ => none)
  | _, _, _ => none
def callI2k (m j1 j2 : Nat) (Fn : FnT) (ats ρ1 : List T) : ER T := match itm2 m j1 j2 ρ1 with
  | some (k, ts1, ts2, t, u) => gTwo (fun o1 o2 => (ρ1.set j1 (.lst (ts1.set k o1))).set j2 (.lst (ts2.set k o2))) (Fn (t :: u :: ats))
  | none => .bad
def isDead : Option T → Bool
  | some .dead => true
  | _ => false
def dCallI2 (m j1 j2 : Nat) (Fn : FnT) (da : DA) : DE := fun ρ => match itm2 m j1 j2 ρ with
  | some (_, ts1, ts2, _, _) => (da ((ρ.set j2 .dead).set j1 .dead)).bind fun ats ρ1 => if isDead ρ1[j1]? = true ∧ isDead ρ1[j2]? = true then callI2k m j1 j2 Fn ats ((ρ1.set j1 (.lst ts1)).set j2 (.lst ts2)) else .bad
  | none => .bad
end
end Gb

namespace Gb
open PySem PySem.Spec L2
section
variable {C : Ct} {W : WX} {pn ch : List Nat} {w w' : Wd} {H H' : Hp} {σ σ' : L2.St} {En : Ends} {X : Cx} {ca : Cad} {ρ : List T} {t u o : T} {v x : Option V}
/-! lists and tuples of own things displayed -/
def liveT : T → Bool
  | .imm _ _ => true
  | t => ownT t
def fLstO : List T → List T → ER T := fun ts ρ => if ts.length ≤ 1000 ∧ ts.all liveT = true then .ok (.lst ts) ρ else .bad
def dLstO (da : DA) : DE := fun ρ => (da ρ).bind fLstO
def fTupO : List T → List T → ER T := fun ts ρ => if ts.length ≤ 1000 ∧ ts.all liveT = true then .ok (.tup ts) ρ else .bad
def dTupO (da : DA) : DE := fun ρ => (da ρ).bind fTupO
/-! x[j].clear(), x an own tuple -/
def clrT (i j : Nat) (ρ : List T) : Option T → ER T
  | some (.tup ts) => (match ts[j]? with
    | some (.lstI _) => .ok (.imm false .non) (ρ.set i (.tup (ts.set j (.lstI []))))
    | _ => .bad)
  | _ => .bad
def dClrT (i j : Nat) : DE := fun ρ => clrT i j ρ ρ[i]?
/-! how these are walked -/
def dvc (d : D) : ER (List D) → ER (List D)
  | .ok ds ρ2 => .ok (d :: ds) ρ2
  | .exc e ρ2 => .exc e ρ2
  | .bad => .bad
def dvk (r : List DE) : ER T → ER (List D)
  | .ok t ρ1 => (match t.frz with
    | some (false, d) => dvc d (dVals r ρ1)
    | _ => .bad)
  | .exc e ρ1 => .exc e ρ1
  | .bad => .bad
theorem v_dVals_nil : dVals [] ρ = .ok [] ρ := rfl
theorem v_dVals {de : DE} {r : List DE} : dVals (de :: r) ρ = dvk r (de ρ) := by
  rw [dVals]
  unfold dvk
  cases de ρ with
  | ok t ρ1 =>
    cases e : t.frz with
    | none => simp only [e]
    | some bd =>
      obtain ⟨b, d⟩ := bd
      cases b with
      | true => simp only [e]
      | false =>
        simp only [e]
        unfold dvc
        cases dVals r ρ1 <;> rfl
  | exc e ρ1 => rfl
  | bad => rfl
theorem v_dvk {r : List DE} {d : D} : dvk r (.ok (.imm false d) ρ) = dvc d (dVals r ρ) := rfl
theorem v_dvk_l {r : List DE} {ds : List D} : dvk r (.ok (.lstI ds) ρ) = dvc (.lst ds) (dVals r ρ) := rfl
theorem v_dvc {d : D} {ds : List D} : dvc d (.ok ds ρ) = .ok (d :: ds) ρ := rfl
def dnk (ks : List Str) : ER (List D) → ER T
  | .ok ds ρ1 => if ks.Nodup ∧ ks.length ≤ 15 ∧ 0 < ks.length ∧ ds.length = ks.length then .ok (.dicI (ks.map Sum.inr) ds) ρ1 else .bad
  | .exc e ρ1 => .exc e ρ1
  | .bad => .bad
theorem v_DicN {ks : List Str} {des : List DE} : dDicN ks des ρ = dnk ks (dVals des ρ) := by
  unfold dDicN dnk
  cases dVals des ρ <;> rfl
theorem v_dnk {ks : List Str} {ds : List D} (h : ks.Nodup ∧ ks.length ≤ 15 ∧ 0 < ks.length ∧ ds.length = ks.length) : dnk ks (.ok ds ρ) = .ok (.dicI (ks.map Sum.inr) ds) ρ := if_pos h
def kgek1 (i : Nat) : T → List T → ER T := fun t ρ1 => match t, ρ1[i]? with
    | .imm _ (.str k), some (.dicI ks ds) => (match getK (.inr k) ks ds with
      | some d => .ok (.imm false d) ρ1
      | none => .bad)
    | _, _ => .bad
def kge (i : Nat) (de : DE) (ρ : List T) : Option T → ER T
  | some (.dicI _ _) => bnd (de ρ) (kgek1 i)
  | _ => .bad
theorem v_KGetE {i : Nat} {de : DE} : dKGetE i de ρ = kge i de ρ ρ[i]? := by
  unfold dKGetE kge
  rfl
theorem v_kge {i : Nat} {de : DE} {ks : List Key} {ds : List D} : kge i de ρ (some (.dicI ks ds)) = bnd (de ρ) (kgek1 i) := rfl
theorem v_kgek1 {i : Nat} {b : Bool} {k : Str} : kgek1 i (.imm b (.str k)) ρ = kgk k ρ ρ[i]? := by
  unfold kgek1 kgk
  cases ρ[i]? with
  | none => rfl
  | some t => cases t <;> rfl
theorem v_KPutA {i : Nat} {k : Str} {de : DE} : dKPutA i k de ρ = exk (de ρ) (kputA0 i k) := by
  show dEx de _ ρ = _
  unfold dEx exk
  cases de ρ with
  | ok t ρ1 => rfl
  | exc e ρ1 => rfl
  | bad => rfl
theorem v_kputA0 {i : Nat} {k : Str} {d : D} : kputA0 i k (.imm false d) ρ = kputA1 i k ρ ρ[i]? (some (false, d)) := rfl
theorem v_kputA0_l {i : Nat} {k : Str} {ds : List D} : kputA0 i k (.lstI ds) ρ = kputA1 i k ρ ρ[i]? (some (false, .lst ds)) := rfl
def cO1k (i : Nat) (Fn : FnT) : List T → List T → ER T := fun ts ρ1 => callO1k i Fn ts ρ1 ρ1[i]?
def cO1q (i : Nat) (Fn : FnT) (da : DA) (ρ : List T) (b : Bool) : ER T := if b = true then bnd (da ρ) (cO1k i Fn) else .bad
theorem v_CallO1 {i : Nat} {Fn : FnT} {da : DA} : dCallO1 i Fn da ρ = cO1q i Fn da ρ (ownO ρ[i]?) := rfl
theorem v_cO1q {i : Nat} {Fn : FnT} {da : DA} : cO1q i Fn da ρ true = bnd (da ρ) (cO1k i Fn) := rfl
theorem v_cO1k {i : Nat} {Fn : FnT} {ts : List T} : cO1k i Fn ts ρ = callO1k i Fn ts ρ ρ[i]? := rfl
theorem v_callO1k {i : Nat} {Fn : FnT} {ts : List T} (h : ownT t = true) : callO1k i Fn ts ρ (some t) = afterO i ρ (Fn (t :: ts)) := if_pos h
theorem v_ownO : ownO (some t) = ownT t := rfl
theorem v_own_obj {c : Nat} {ns : List Str} {ts : List T} : ownT (.obj c ns ts) = true := rfl
theorem v_own_dicI {ks : List Key} {ds : List D} : ownT (.dicI ks ds) = true := rfl
def cO2k (i j : Nat) (Fn : FnT) : List T → List T → ER T := fun ts ρ1 => callO2k i j Fn ts ρ1 ρ1[i]? ρ1[j]?
def cO2q (i j : Nat) (Fn : FnT) (da : DA) (ρ : List T) (b c : Bool) : ER T := if b = true ∧ c = true then bnd (da ρ) (cO2k i j Fn) else .bad
theorem v_CallO2 {i j : Nat} {Fn : FnT} {da : DA} : dCallO2 i j Fn da ρ = cO2q i j Fn da ρ (ownO ρ[i]?) (ownO ρ[j]?) := rfl
theorem v_cO2q {i j : Nat} {Fn : FnT} {da : DA} : cO2q i j Fn da ρ true true = bnd (da ρ) (cO2k i j Fn) := rfl
theorem v_cO2k {i j : Nat} {Fn : FnT} {ts : List T} : cO2k i j Fn ts ρ = callO2k i j Fn ts ρ ρ[i]? ρ[j]? := rfl
def aft2 (i j : Nat) (ρ : List T) : FR → ER T := gTwo (fun o1 o2 => (ρ.set i o1).set j o2)
theorem v_callO2k {i j : Nat} {Fn : FnT} {ts : List T} (h : ownT t = true ∧ ownT u = true ∧ i ≠ j) : callO2k i j Fn ts ρ (some t) (some u) = aft2 i j ρ (Fn (t :: u :: ts)) := if_pos h
theorem v_aft2 {i j : Nat} {r o1 o2 : T} {os : List T} : aft2 i j ρ (.okm r (o1 :: o2 :: os)) = .ok r ((ρ.set i o1).set j o2) := rfl
theorem v_aft2_exc {i j : Nat} {e : Ex} {o1 o2 : T} {os : List T} : aft2 i j ρ (.excm e (o1 :: o2 :: os)) = .exc e ((ρ.set i o1).set j o2) := rfl
theorem v_LstO {da : DA} : dLstO da ρ = bnd (da ρ) fLstO := rfl
theorem v_fLstO {ts : List T} (h : ts.length ≤ 1000 ∧ ts.all liveT = true) : fLstO ts ρ = .ok (.lst ts) ρ := if_pos h
theorem v_TupO {da : DA} : dTupO da ρ = bnd (da ρ) fTupO := rfl
theorem v_fTupO {ts : List T} (h : ts.length ≤ 1000 ∧ ts.all liveT = true) : fTupO ts ρ = .ok (.tup ts) ρ := if_pos h
theorem v_ClrT {i j : Nat} : dClrT i j ρ = clrT i j ρ ρ[i]? := rfl
end
end Gb

namespace Gb
open PySem PySem.Spec L2
section
variable {C : Ct} {W : WX} {pn ch : List Nat} {w w' : Wd} {H H' : Hp} {σ σ' : L2.St} {En : Ends} {X : Cx} {ca : Cad} {ρ : List T} {t u o : T} {v x : Option V}
/-! xs[m].f() and xs[m]["k"], items of own lists -/
def itm1 (m j : Nat) (ρ : List T) : Option (Nat × List T × T) := match ρ[m]?, ρ[j]? with
  | some (.imm _ (.int k)), some (.lst ts) => (match ts[k.toNat]? with
    | some t => if 0 ≤ k ∧ ownT t = true then some (k.toNat, ts, t) else none
    | _ => none)
  | _, _ => none
def afterI (j k : Nat) (ts ρ1 : List T) : FR → ER T
  | .okm t (o :: _) => .ok t (ρ1.set j (.lst (ts.set k o)))
  | .excm e (o :: _) => .exc e (ρ1.set j (.lst (ts.set k o)))
  | _ => .bad
def methI (j : Nat) (m : Str) (c : Nat) (Fn : FnT) (ds : List D) (ρ : List T) : Option (Nat × List T × T) → ER T
  | some (k, ts, .obj c' ns us) => if c' = c ∧ m ∉ ns then afterI j k ts ρ (Fn (.obj c' ns us :: ds.map (T.imm false))) else .bad
  | _ => .bad
def dMethI0 (q j : Nat) (m : Str) (c : Nat) (Fn : FnT) (ds : List D) : DE := fun ρ => methI j m c Fn ds ρ (itm1 q j ρ)
def kgetI (k : Str) (ρ : List T) : Option (Nat × List T × T) → ER T
  | some (_, _, .dicI ks ds) => (match getK (.inr k) ks ds with
    | some d => .ok (.imm false d) ρ
    | none => .bad)
  | _ => .bad
def dKGetI (q j : Nat) (k : Str) : DE := fun ρ => kgetI k ρ (itm1 q j ρ)
theorem v_MethI0 {q j : Nat} {m : Str} {c : Nat} {Fn : FnT} {ds : List D} : dMethI0 q j m c Fn ds ρ = methI j m c Fn ds ρ (itm1 q j ρ) := rfl
theorem v_KGetI {q j : Nat} {k : Str} : dKGetI q j k ρ = kgetI k ρ (itm1 q j ρ) := rfl
theorem v_afterI {j k : Nat} {ts : List T} {os : List T} : afterI j k ts ρ (.okm t (o :: os)) = .ok t (ρ.set j (.lst (ts.set k o))) := rfl
theorem v_CallI2 {m j1 j2 : Nat} {Fn : FnT} {da : DA} {n : Nat} {ts1 ts2 : List T} {ats ρ1 : List T} (h : itm2 m j1 j2 ρ = some (n, ts1, ts2, t, u)) (hd : da ((ρ.set j2 .dead).set j1 .dead) = .ok ats ρ1) (h1 : isDead ρ1[j1]? = true ∧ isDead ρ1[j2]? = true) :
    dCallI2 m j1 j2 Fn da ρ = callI2k m j1 j2 Fn ats ((ρ1.set j1 (.lst ts1)).set j2 (.lst ts2)) := by
  unfold dCallI2
  simp only [h, hd, ER.bind]
  rw [if_pos h1]
end
end Gb

namespace Gb
open PySem PySem.Spec L2
section
variable {C : Ct} {W : WX} {pn ch : List Nat} {w w' : Wd} {H H' : Hp} {σ σ' : L2.St} {En : Ends} {X : Cx} {ca : Cad} {ρ : List T} {t u o : T} {v x : Option V} {ks : List Key} {ts : List T} {k : Nat} {p : Addr}
/-! dicts of own things: T.dct -/
def ixK (k : Key) : List Key → Option Nat
  | [] => none
  | n :: ns => if n = k then some 0 else (ixK k ns).map (· + 1)
def dctk : T → List T → ER T := fun t ρ1 => match t with
  | .dicI ks ds => .ok (.dct ks (ds.map (T.imm false))) ρ1
  | _ => .bad
def dDct (de : DE) : DE := fun ρ => (de ρ).bind dctk
/-! s["k"] -/
def tgk (i : Nat) (k : Str) (ρ : List T) : Option T → ER T
  | some (.dct ks ts) => (match ixK (.inr k) ks with
    | some j => (match (ts[j]?).bind T.frz with
      | some (b, d) => .ok (.imm b d) (ρ.set i (.dct ks (ts.set j (.imm b d))))
      | none => .bad)
    | none => .bad)
  | _ => .bad
def dTGet (i : Nat) (k : Str) : DE := fun ρ => tgk i k ρ ρ[i]?
/-! s["k"] = e -/
def tputk (i : Nat) (k : Str) (t : T) (ρ1 : List T) : Option T → SR
  | some (.dct ks ts) => if ks.Nodup ∧ ks.length < 1000 then (match ixK (.inr k) ks with
    | some j => if j < ts.length then .next (ρ1.set i (.dct ks (ts.set j t))) else .bad
    | none => .next (ρ1.set i (.dct (ks ++ [.inr k]) (ts ++ [t])))) else .bad
  | _ => .bad
def dTPut (i : Nat) (k : Str) (de : DE) : DS := fun ρ => match de ρ with
  | .ok t ρ1 => tputk i k t ρ1 ρ1[i]?
  | .exc e ρ1 => .exc e ρ1
  | .bad => .bad
end
end Gb

namespace Gb
open PySem PySem.Spec L2
section
variable {C : Ct} {W : WX} {pn ch : List Nat} {w w' : Wd} {H H' : Hp} {σ σ' : L2.St} {En : Ends} {X : Cx} {ca : Cad} {ρ : List T} {t u o : T} {v x : Option V} {ks : List Key} {ts : List T} {k : Nat} {p : Addr}
/-! own lists in own dicts: s["k"].append(e), s["k"].extend(e) -/
/-! e.append(x), e a list of one's own that no name holds -/
def dAppT (de : DE) (da : DA) : DE := fun ρ => (de ρ).bind fun t ρ1 => match t with
  | .lstI ds => (da ρ1).bind fun ats ρ2 => (match ats with
    | [x] => (match x.frz with
      | some (false, _) => if ds.length < 16777216 then .ok (.imm false .non) ρ2 else .bad
      | _ => .bad)
    | _ => .bad)
  | _ => .bad
/-! F(xs[m], ys[m], zs), all lent -/
end
end Gb

namespace Gb
open PySem PySem.Spec L2
section
variable {C : Ct} {W : WX} {pn ch : List Nat} {w w' : Wd} {H H' : Hp} {σ σ' : L2.St} {En : Ends} {X : Cx} {ca : Cad} {ρ : List T} {t u o : T} {v x : Option V} {ks : List Key} {ts : List T} {k : Nat} {p : Addr}
/-! xs[m]["k"] = e -/
def tputI (j : Nat) (k : Str) (t : T) (ρ1 : List T) : Option (Nat × List T × T) → SR
  | some (n, xs, .dct ks ts) => if ks.Nodup ∧ ks.length < 1000 then (match ixK (.inr k) ks with
    | some jj => if jj < ts.length then .next (ρ1.set j (.lst (xs.set n (.dct ks (ts.set jj t))))) else .bad
    | none => .next (ρ1.set j (.lst (xs.set n (.dct (ks ++ [.inr k]) (ts ++ [t])))))) else .bad
  | _ => .bad
def dTPutI (q j : Nat) (k : Str) (de : DE) : DS := fun ρ => match de ρ with
  | .ok t ρ1 => tputI j k t ρ1 (itm1 q j ρ1)
  | .exc e ρ1 => .exc e ρ1
  | .bad => .bad
/-! s[e], s a dict of own things -/
def tgek (i : Nat) : T → List T → ER T := fun t ρ1 => match t with
  | .imm _ (.str k) => tgk i k ρ1 ρ1[i]?
  | _ => .bad
def isDct : Option T → Bool
  | some (.dct _ _) => true
  | _ => false
def dTGetE (i : Nat) (de : DE) : DE := fun ρ => if isDct ρ[i]? = true then (de ρ).bind (tgek i) else .bad
/-! how they are walked -/
theorem v_Dct {de : DE} : dDct de ρ = bnd (de ρ) dctk := rfl
theorem v_dctk {ds : List D} : dctk (.dicI ks ds) ρ = .ok (.dct ks (ds.map (T.imm false))) ρ := rfl
theorem v_TGet {i : Nat} {k : Str} : dTGet i k ρ = tgk i k ρ ρ[i]? := rfl
theorem v_tgk {i j : Nat} {k : Str} {b : Bool} {d : D} (h1 : ixK (.inr k) ks = some j) (h2 : ts[j]? = some (.imm b d)) : tgk i k ρ (some (.dct ks ts)) = .ok (.imm b d) (ρ.set i (.dct ks (ts.set j (.imm b d)))) := by
  unfold tgk
  simp only [h1, h2]
  rfl
theorem v_tgk_l {i j : Nat} {k : Str} {ds : List D} (h1 : ixK (.inr k) ks = some j) (h2 : ts[j]? = some (.lstI ds)) : tgk i k ρ (some (.dct ks ts)) = .ok (.imm false (.lst ds)) (ρ.set i (.dct ks (ts.set j (.imm false (.lst ds))))) := by
  unfold tgk
  simp only [h1, h2]
  rfl
def tputx (i : Nat) (k : Str) : ER T → SR
  | .ok t ρ1 => tputk i k t ρ1 ρ1[i]?
  | .exc e ρ1 => .exc e ρ1
  | .bad => .bad
theorem v_TPut {i : Nat} {k : Str} {de : DE} : dTPut i k de ρ = tputx i k (de ρ) := by
  unfold dTPut tputx
  cases de ρ <;> rfl
theorem v_tputx {i : Nat} {k : Str} : tputx i k (.ok t ρ) = tputk i k t ρ ρ[i]? := rfl
theorem v_tputx_exc {i : Nat} {k : Str} {e : Ex} : tputx i k (.exc e ρ) = .exc e ρ := rfl
theorem v_tputk {i j : Nat} {k : Str} (h1 : ks.Nodup ∧ ks.length < 1000) (h2 : ixK (.inr k) ks = some j) (h3 : j < ts.length) : tputk i k t ρ (some (.dct ks ts)) = .next (ρ.set i (.dct ks (ts.set j t))) := by
  unfold tputk
  simp only [h1, and_self, if_true, h2, h3, if_pos, not_false_eq_true]
theorem v_tputk0 {i : Nat} {k : Str} (h1 : ks.Nodup ∧ ks.length < 1000) (h2 : ixK (.inr k) ks = none) : tputk i k t ρ (some (.dct ks ts)) = .next (ρ.set i (.dct (ks ++ [.inr k]) (ts ++ [t]))) := by
  unfold tputk
  simp only [h1, and_self, if_true, h2, not_false_eq_true]
def tputIx (q j : Nat) (k : Str) : ER T → SR
  | .ok t ρ1 => tputI j k t ρ1 (itm1 q j ρ1)
  | .exc e ρ1 => .exc e ρ1
  | .bad => .bad
theorem v_TPutI {q j : Nat} {k : Str} {de : DE} : dTPutI q j k de ρ = tputIx q j k (de ρ) := by
  unfold dTPutI tputIx
  cases de ρ <;> rfl
theorem v_tputIx {q j : Nat} {k : Str} : tputIx q j k (.ok t ρ) = tputI j k t ρ (itm1 q j ρ) := rfl
def appTk (da : DA) : T → List T → ER T := fun t ρ1 => match t with
  | .lstI ds => (da ρ1).bind fun ats ρ2 => (match ats with
    | [x] => (match x.frz with
      | some (false, _) => if ds.length < 16777216 then .ok (.imm false .non) ρ2 else .bad
      | _ => .bad)
    | _ => .bad)
  | _ => .bad
theorem v_AppT {de : DE} {da : DA} : dAppT de da ρ = bnd (de ρ) (appTk da) := rfl
def appTk2 (n : Nat) : List T → List T → ER T := fun ats ρ2 => match ats with
  | [x] => (match x.frz with
    | some (false, _) => if n < 16777216 then .ok (.imm false .non) ρ2 else .bad
    | _ => .bad)
  | _ => .bad
theorem v_appTk {da : DA} {ds : List D} : appTk da (.lstI ds) ρ = bnd (da ρ) (appTk2 ds.length) := rfl
theorem v_appTk2 {n : Nat} {d : D} (h : n < 16777216) : appTk2 n [.imm false d] ρ = .ok (.imm false .non) ρ := if_pos h
theorem v_tgek {i : Nat} {b : Bool} {k : Str} : tgek i (.imm b (.str k)) ρ = tgk i k ρ ρ[i]? := rfl
def tgeq (i : Nat) (de : DE) (ρ : List T) (b : Bool) : ER T := if b = true then bnd (de ρ) (tgek i) else .bad
theorem v_TGetE {i : Nat} {de : DE} : dTGetE i de ρ = tgeq i de ρ (isDct ρ[i]?) := rfl
theorem v_tgeq {i : Nat} {de : DE} : tgeq i de ρ true = bnd (de ρ) (tgek i) := rfl
theorem v_isDct : isDct (some (.dct ks ts)) = true := rfl
end
end Gb

namespace Gb
open PySem PySem.Spec L2
section
variable {C : Ct} {W : WX} {pn ch : List Nat} {w w' : Wd} {H H' : Hp} {σ σ' : L2.St} {En : Ends} {X : Cx} {ca : Cad} {ρ : List T} {t u o : T} {v x : Option V} {ks : List Key} {ts : List T} {k : Nat} {p : Addr}
/-! s["k"].extend(e) -/
/-! dicts whose keys are pairs, all values True: T.dkt -/
def dKtNew : DE := fun ρ => .ok (.dkt []) ρ
def pr2 (a c : Int) : List Key := [.inl a, .inl c]
def hasK (k : List Key) (ks : List (List Key)) : Bool := ks.any fun n => decide (n = k)
def ktin (i : Nat) : T → List T → ER T := fun t ρ1 => match t with
  | .imm _ (.tup [.int a, .int c]) => (match ρ1[i]? with
    | some (.dkt ks) => .ok (.imm false (.bl (hasK (pr2 a c) ks))) ρ1
    | _ => .bad)
  | _ => .bad
def dKtIn (i : Nat) (de : DE) : DE := fun ρ => (de ρ).bind (ktin i)
def ktp2 (i : Nat) : ER T → SR
  | .ok (.imm _ (.tup [.int a, .int c])) ρ2 => (match ρ2[i]? with
    | some (.dkt ks) => if ks.length < 16777216 then .next (ρ2.set i (.dkt (if hasK (pr2 a c) ks = true then ks else ks ++ [pr2 a c]))) else .bad
    | _ => .bad)
  | _ => .bad
def ktp0 (i : Nat) (dk : DE) : T → List T → SR := fun t ρ1 => match t, ρ1[i]? with
  | .imm false (.bl true), some (.dkt _) => ktp2 i (dk ρ1)
  | _, _ => .bad
def dKtPut (i : Nat) (dk de : DE) : DS := dEx de (ktp0 i dk)
theorem v_KtNew : dKtNew ρ = .ok (.dkt []) ρ := rfl
theorem v_KtIn {i : Nat} {de : DE} : dKtIn i de ρ = bnd (de ρ) (ktin i) := rfl
def ktin2 (a c : Int) (ρ : List T) : Option T → ER T
  | some (.dkt ks) => .ok (.imm false (.bl (hasK (pr2 a c) ks))) ρ
  | _ => .bad
theorem v_ktin {i : Nat} {b : Bool} {a c : Int} : ktin i (.imm b (.tup [.int a, .int c])) ρ = ktin2 a c ρ ρ[i]? := by
  unfold ktin ktin2
  cases ρ[i]? with
  | none => rfl
  | some t => cases t <;> rfl
theorem v_ktin2 {ks : List (List Key)} {a c : Int} : ktin2 a c ρ (some (.dkt ks)) = .ok (.imm false (.bl (hasK (pr2 a c) ks))) ρ := rfl
theorem v_KtPut {i : Nat} {dk de : DE} : dKtPut i dk de ρ = exk (de ρ) (ktp0 i dk) := by
  show dEx de _ ρ = _
  unfold dEx exk
  cases de ρ <;> rfl
def ktp1 (i : Nat) (dk : DE) (ρ : List T) : Option T → SR
  | some (.dkt _) => ktp2 i (dk ρ)
  | _ => .bad
theorem v_ktp0 {i : Nat} {dk : DE} : ktp0 i dk (.imm false (.bl true)) ρ = ktp1 i dk ρ ρ[i]? := by
  unfold ktp0 ktp1
  cases ρ[i]? with
  | none => rfl
  | some t => cases t <;> rfl
theorem v_ktp1 {i : Nat} {dk : DE} {ks : List (List Key)} : ktp1 i dk ρ (some (.dkt ks)) = ktp2 i (dk ρ) := rfl
def ktp3 (i : Nat) (a c : Int) (ρ : List T) : Option T → SR
  | some (.dkt ks) => if ks.length < 16777216 then .next (ρ.set i (.dkt (if hasK (pr2 a c) ks = true then ks else ks ++ [pr2 a c]))) else .bad
  | _ => .bad
theorem v_ktp2 {i : Nat} {b : Bool} {a c : Int} : ktp2 i (.ok (.imm b (.tup [.int a, .int c])) ρ) = ktp3 i a c ρ ρ[i]? := by
  unfold ktp2 ktp3
  cases e : ρ[i]? with
  | none => simp only [e]
  | some t => cases t <;> simp only [e]
theorem v_ktp3 {i : Nat} {a c : Int} {ks : List (List Key)} (h : ks.length < 16777216) : ktp3 i a c ρ (some (.dkt ks)) = .next (ρ.set i (.dkt (if hasK (pr2 a c) ks = true then ks else ks ++ [pr2 a c]))) := if_pos h
end
end Gb

namespace Gb
open PySem PySem.Spec L2
section
variable {C : Ct} {W : WX} {pn ch : List Nat} {w w' : Wd} {H H' : Hp} {σ σ' : L2.St} {En : Ends} {X : Cx} {ca : Cad} {ρ : List T} {t u o : T} {v x : Option V} {p : Addr} {c : Nat}
/-! a statement that reads what a name holds: it is lent to it -/
def lendR (i : Nat) (t : T) (kl : List Nat) (n : Nat) : SR → SR
  | .next ρ' => if noBs ((killL kl ρ').set i t) = true ∧ ρ'.length = n then .next ((killL kl ρ').set i t) else .bad
  | .exc e ρ' => if noBs ((killL kl ρ').set i t) = true ∧ ρ'.length = n then .exc e ((killL kl ρ').set i t) else .bad
  | _ => .bad
def dsLendk (i : Nat) (kl : List Nat) (d : DS) (ρ : List T) : Option T → SR
  | some t => (match t.frz with
    | some (_, dd) => lendR i t kl ρ.length (d (ρ.set i (.imm true dd)))
    | none => .bad)
  | none => .bad
def dsLend (i : Nat) (kl : List Nat) (d : DS) : DS := fun ρ => dsLendk i kl d ρ ρ[i]?
/-! o.m(xs, e, ..), o and xs lent -/
def metho2 (i j : Nat) (m : Str) (c : Nat) (Fn : FnT) (ats ρ1 : List T) (y z : Option T) : ER T := match y, z with
  | some (.obj c' ns us), some u => if (c' = c ∧ m ∉ ns) ∧ ownT u = true ∧ i ≠ j then gTwo (fun o1 o2 => (ρ1.set i o1).set j o2) (Fn (.obj c' ns us :: u :: ats)) else .bad
  | _, _ => .bad
def dMethO2 (i j : Nat) (m : Str) (c : Nat) (Fn : FnT) (da : DA) : DE := fun ρ => if isO m c ρ[i]? = true ∧ ownO ρ[j]? = true then (da ρ).bind fun ts ρ1 => metho2 i j m c Fn ts ρ1 ρ1[i]? ρ1[j]? else .bad
theorem v_sLend {i : Nat} {kl : List Nat} {d : DS} : dsLend i kl d ρ = dsLendk i kl d ρ ρ[i]? := rfl
theorem v_sLendk_l {i : Nat} {kl : List Nat} {d : DS} {ds : List D} : dsLendk i kl d ρ (some (.lstI ds)) = lendR i (.lstI ds) kl ρ.length (d (ρ.set i (.imm true (.lst ds)))) := rfl
theorem v_sLendk_i {i : Nat} {kl : List Nat} {d : DS} {b : Bool} {e : D} : dsLendk i kl d ρ (some (.imm b e)) = lendR i (.imm b e) kl ρ.length (d (ρ.set i (.imm true e))) := rfl
theorem v_lendR {i n : Nat} {kl : List Nat} (h : noBs ((killL kl ρ).set i t) = true ∧ ρ.length = n) : lendR i t kl n (.next ρ) = .next ((killL kl ρ).set i t) := if_pos h
theorem v_lendR_exc {i n : Nat} {kl : List Nat} {e : Ex} (h : noBs ((killL kl ρ).set i t) = true ∧ ρ.length = n) : lendR i t kl n (.exc e ρ) = .exc e ((killL kl ρ).set i t) := if_pos h
def mO2k (i j : Nat) (m : Str) (c : Nat) (Fn : FnT) : List T → List T → ER T := fun ts ρ1 => metho2 i j m c Fn ts ρ1 ρ1[i]? ρ1[j]?
def mO2q (i j : Nat) (m : Str) (c : Nat) (Fn : FnT) (da : DA) (ρ : List T) (a b : Bool) : ER T := if a = true ∧ b = true then bnd (da ρ) (mO2k i j m c Fn) else .bad
theorem v_MethO2 {i j : Nat} {m : Str} {Fn : FnT} {da : DA} : dMethO2 i j m c Fn da ρ = mO2q i j m c Fn da ρ (isO m c ρ[i]?) (ownO ρ[j]?) := rfl
theorem v_mO2q {i j : Nat} {m : Str} {Fn : FnT} {da : DA} : mO2q i j m c Fn da ρ true true = bnd (da ρ) (mO2k i j m c Fn) := rfl
theorem v_mO2k {i j : Nat} {m : Str} {Fn : FnT} {ts : List T} : mO2k i j m c Fn ts ρ = metho2 i j m c Fn ts ρ ρ[i]? ρ[j]? := rfl
end
end Gb

namespace Gb
open PySem PySem.Spec L2 PySem.Calls PyProof.Rows
section
variable {C : Ct} {W : WX} {pn ch : List Nat} {w w' : Wd} {H H' : Hp} {σ σ' : L2.St} {En : Ends} {X : Cx} {ca : Cad} {ρ : List T} {t u o : T} {v x : Option V} {p : Addr} {c : Nat}
/-! an exception that is pinned where it was caught, or handed to a def -/
theorem exc_instP {a D : Addr} {oe : Obj} {d : Option Addr} {pins : List (Addr × Obj)} {s : Shared} (hp : (a, oe) ∈ X.pn) (hz : Zc (.ref D) d oe) (hf : ∃ vs, oe.data = .fields vs) (I : Inv X pins σ H s) (hd : DictAt H d) : ∃ od, PySem.W.InstAt s.heap a oe D od := by
  obtain ⟨hget, _⟩ := I.pin (a, oe) (List.mem_append.mpr (.inl hp))
  obtain ⟨vs, hv⟩ := hf
  rcases hd with rfl | ⟨dd, fs, rfl, ea⟩
  · refine ⟨none, ?_⟩
    obtain ⟨oc, od, oda, osl⟩ := oe
    obtain ⟨h1, h2⟩ := hz
    dsimp only at h1 h2 hv
    subst h1 h2 hv
    exact ⟨hget, rfl, rfl, trivial⟩
  · have hx : ObjOk X.prog X.w H s.heap dd (.xd fs) := I.hok dd _ ea
    obtain ⟨mA, hns, hr⟩ := hx
    obtain ⟨od, ho, hl⟩ := lookIn_ns hns
    exact ⟨some od, hget, hz.1, by unfold PySem.W.notCls; rw [hv] <;> rfl, by rw [hz.2]; exact ho⟩
theorem call_isP1 {a D : Addr} {oe : Obj} {d : Option Addr} (hp : (a, oe) ∈ X.pn) (C : ExcC X.K D) (hz : Zc (.ref D) d oe) (hf : ∃ vs, oe.data = .fields vs) : CallR X (.builtin "isinstance") (rIsE1 X.K D a d) := by
  intro pins s σ H xs us Q I r h
  obtain ⟨c, cv, b, rfl, hcv, e, hd, q⟩ := h
  obtain ⟨u1, u2, rfl, r1, r2⟩ := vals2 r
  cases (show u1 = Value.ref a from r1)
  have ec := hcv.eq r2
  subst ec
  obtain ⟨od, J⟩ := exc_instP hp hz hf I hd
  exact PySem.W.kia_one (PySem.W.gb_kitO C.hg C.hk C.hs C.hd C.ha C.hn C.ht C.hm) I.kIn J e (fun z => nomatch z) fun tk => ⟨.bl b, H, I.kept (t' := tk) fun _ _ z => z, rfl, q⟩
theorem se_isP1 (i : Nat) {x : Str} {ec : Expr} {c : V} {u0 : Value} {px p pos : Pos} {a dd : Addr} {e : Ex} {oe : Obj} {d : Option Addr} {r : Nat → Option Bool} (hp : (a, oe) ∈ X.pn) (hz : Zc (.ref (ca e.c)) d oe) (hf : ∃ vs, oe.data = .fields vs) (hd : d = (if e.ns = [] then none else some dd))
    (hm : X.mg "isinstance" = none) (cl : ClsE X ec c u0) (hr : IsF X.K ca u0 r) (hN : X.N[i]? = some x := by rfl) (hv : Vis X.env.scope x := by first | exact Or.inl rfl | exact Or.inr (Or.inl rfl) | exact Or.inr (Or.inr rfl))
    (hg : Gl X "isinstance" := by rfl) (hdb : (x == ("__debug__" : Str)) = false := by decide) (hcd : (x == ("__classdict__" : Str)) = false := by decide)
    (h1 : starEach [.Name x px, ec] X.env = (false, eval (.Name x px) X.env) :: starEach [ec] X.env := by rfl) (h2 : starEach [ec] X.env = (false, eval ec X.env) :: starEach [] X.env := by rfl) (hpl : (backTo pos (starEach [ec] X.env)).any (·.1) = false := by rfl) :
    SE X ca W (.Call (.Name "isinstance" p) [.Name x px, ec] [] pos) (dIsE a dd e i (r e.c)) := by
  cases hre : r e.c with
  | none =>
    refine ⟨⟨fun pins s σ H Q I q => ?_⟩⟩
    obtain ⟨w, ρ, S, k⟩ := q
    unfold dIsE at k
    split at k
    · split at k
      · exact k.elim
      · exact k.elim
    · exact k.elim
  | some b =>
    obtain ⟨EC, ek⟩ := hr _ _ hre
    exact ⟨PE.imp (pe_callB (call_isP1 hp EC hz hf) hg hm PyProof.Rows.boot_isinstance (pa_cons (pe_var (i := i) hN hv hdb hcd) (pa_cons cl.pe pa_nil h2) h1) (by decide) (by decide) h1 hpl) fun σ H Q q => by
      obtain ⟨w, ρ, S, k⟩ := q
      unfold dIsE at k
      split at k
      · rename_i b0 a' dd' ns vs hi
        split at k
        · rename_i hh
          obtain ⟨rfl, rfl, rfl, hns⟩ := hh
          obtain ⟨g1, g2, _⟩ := exc_slot S hi hns hd
          exact ⟨.ref _, g1, c, u0, b, rfl, cl.cv, ek, g2, k w H _ .refl (S.cons_imm rfl)⟩
        · exact k.elim
      · exact k.elim⟩
theorem pe_xfP {a C : Addr} {oe : Obj} {cls : Value} {d : Option Addr} {e : Expr} {te : TE} {pos : Pos} {n : Str} (hp : (a, oe) ∈ X.pn) (T : XfC X.K C) (hno : PySem.W.findIn X.K (.ref C) n = some none)
    (hz : Zc cls d oe) (hf : ∃ vs, oe.data = .fields vs) (he : PE X e te) (hb : attributeBase e n X.env (eval e X.env) = eval e X.env := by rfl) :
    PE X (.Attribute e n pos) (tXf a cls d C n te) := by
  refine ⟨fun pins s σ H Q I h => ?_⟩
  refine attr_of hb (thn (he.run pins s σ H _ I h) fun u s1 hh => ?_)
  obtain ⟨x, H1, I1, rx, ex, ec, dd, fs, v, ed, ea, l, q⟩ := hh
  subst ex
  obtain rfl : u = Value.ref a := rx
  subst ec
  subst ed
  obtain ⟨ha, _⟩ := I1.pin (a, oe) (List.mem_append_left _ hp)
  obtain ⟨vs, hd⟩ := hf
  have hx : ObjOk X.prog X.w H1 s1.heap dd (.xd fs) := I1.hok dd _ ea
  obtain ⟨mA, hns, hr⟩ := hx
  obtain ⟨od, ho, hl⟩ := lookIn_ns hns
  obtain ⟨u, hu, ru⟩ := RelO.some_of (v := v) (o := mA n) (by rw [← l]; exact hr n)
  have J : PySem.W.InstAt s1.heap a oe C (some od) := ⟨ha, hz.1, by unfold PySem.W.notCls; rw [hd] <;> rfl, by rw [hz.2]; exact ho⟩
  exact HandSPX.exc_get I1.kIn J T.ga T.gg T.exC (PySem.W.findObj_own T.hdC hno rfl (by rw [hl, hu])) (handed_of ru) ⟨v, H1, I1.tok _, ru, q⟩
theorem se_xfP (i : Nat) {x f : Str} {px pos : Pos} {a dd : Addr} {e : Ex} {oe : Obj} {d : Option Addr} {ok : Nat → Bool} (hp : (a, oe) ∈ X.pn) (hz : Zc (.ref (ca e.c)) d oe) (hf : ∃ vs, oe.data = .fields vs) (hd : d = (if e.ns = [] then none else some dd)) (hr : XfF X.K ca f ok)
    (hN : X.N[i]? = some x := by rfl) (hv : Vis X.env.scope x := by first | exact Or.inl rfl | exact Or.inr (Or.inl rfl) | exact Or.inr (Or.inr rfl)) (hdb : (x == ("__debug__" : Str)) = false := by decide) (hcd : (x == ("__classdict__" : Str)) = false := by decide)
    (hb : attributeBase (.Name x px) f X.env (eval (.Name x px) X.env) = eval (.Name x px) X.env := by rfl) : SE X ca W (.Attribute (.Name x px) f pos) (dXf a dd e i f ok) := by
  cases hre : ok e.c with
  | false =>
    refine ⟨⟨fun pins s σ H Q I q => ?_⟩⟩
    obtain ⟨w, ρ, S, k⟩ := q
    unfold dXf at k
    split at k
    · rw [if_neg (by rw [hre]; simp)] at k
      exact k.elim
    · exact k.elim
  | true =>
    obtain ⟨XC, hno⟩ := hr _ hre
    exact ⟨PE.imp (pe_xfP hp XC hno hz hf (pe_var (i := i) hN hv hdb hcd) hb) fun σ H Q q => by
      obtain ⟨w, ρ, S, k⟩ := q
      unfold dXf at k
      split at k
      · rename_i b0 a' dd' ns vs hi
        split at k
        · rename_i hh
          obtain ⟨rfl, rfl, rfl, hns, hne, _⟩ := hh
          split at k
          · rename_i dv hl
            obtain ⟨g1, g2, g3⟩ := exc_slot S hi hns hd
            obtain ⟨fs, h1, h2, h3, h4⟩ := g3 hne
            rw [hns] at hl
            obtain ⟨y, hy, ry⟩ := lookF_spec h3 h4 hl
            rw [if_neg hne] at hd
            exact ⟨.ref _, g1, rfl, rfl, _, fs, y, hd, h2, hy, k w H _ .refl (S.cons_imm (RD_mono (fun a z => ⟨.inl z, rfl⟩) _ _ ry))⟩
          · exact k.elim
        · exact k.elim
      · exact k.elim⟩
/-! a def that is handed such an exception; also within an except suite (nothing is raised in it) -/
structure RoomS (k : Nat) (A : Around) : Prop where
  dp : A.depth + 3 * k + 5 < recursionLimit
  un : A.units + 16 * k + 200 < cLine
theorem RoomS.units {k : Nat} {A : Around} (r : RoomS k A) : A.units + 64 < cLine := by have := r.un; omega
theorem RoomG.s {k : Nat} {A : Around} (r : RoomG k A) : RoomS k A := ⟨r.r.dp, r.r.un⟩
theorem RoomS.mono {j k : Nat} {A : Around} (r : RoomS k A) (h : j ≤ k) : RoomS j A := ⟨by have := r.dp; omega, by have := r.un; omega⟩
theorem RoomS.deeper {k : Nat} {A : Around} (r : RoomS (k + 1) A) (env : Env) : RoomS k (A.deeper env) :=
  ⟨by have := r.dp; show A.depth + 1 + 3 * k + 5 < _; omega, by have := r.un; show A.units + 3 + 16 * k + 200 < _; omega⟩
theorem RoomG.mark {k : Nat} {A : Around} (r : RoomG k A) (v : Option Value) : RoomS k (A.mark v) := ⟨r.r.dp, r.r.un⟩
/-- the context of a def that is handed a pinned object -/
abbrev Cx.held (X : Cx) (pn : List (Addr × Obj)) : Cx := { X with calm := false, pn := pn }
structure FnE (P : Program) (w : World) (K : PySem.W.Frag) (mg : Str → Option Value) (base : Heap) (CX : CXT) (a : Addr) (oe : Obj) (k : Nat) (f : Addr) (fd : FuncData) (ps : List Str) (sp : Sp) : Prop where
  len : ∀ vs H Q E, sp vs H Q E → vs.length = ps.length
  run : ∀ (A : Around) (outer : List Env) (s : Shared) (H : Hp) (args : Args) (us : List Value) (vs : List V) (Q : VK) (E : XK), RoomS k A → Env0 P w K mg base A outer s H → BindsTo s fd args (ps.zip us) → Vals vs us →
    (s.heap.get? a = some oe ∧ H a = none ∧ a ∉ frs outer ∧ ∀ v, oe.data ≠ .cell v) → sp vs H Q E →
    codeAny (model P w) A (.call (.ref f) args) (CR CX outer P w H s Q E) s
theorem inv_startP {CX : CXT} {P : Program} {w : World} {K : PySem.W.Frag} {mg : Str → Option Value} {base : Heap} {N ps : List Str} {qual : Str} {scope : Scope} {f : Addr} {cd : Value} {A : Around} {outer : List Env} {s s1 : Shared} {H : Hp} {E : XK} {us : List Value} {vs : List V} {a : Addr} {oe : Obj}
    (S : FnScope N ps scope) (e0 : Env0 P w K mg base A outer s H) (hl : vs.length = ps.length) (r : Vals vs us) (hp : s.heap.get? a = some oe ∧ H a = none ∧ a ∉ frs outer ∧ ∀ v, oe.data ≠ .cell v)
    (x : InCallC s s.heap.objs.size (bindL (envOfC qual scope s.heap.objs.size f cd).kindOf (ps.zip us) fun _ => none) (cellsFrom (s.heap.objs.size + 1) scope.names []) (bindC (envOfC qual scope s.heap.objs.size f cd).kindOf (ps.zip us) fun _ => none) s1) :
    Inv (Cx.held (cxOf CX P w K mg base N qual scope f cd A outer s H E) [(a, oe)]) [] (L2.start N vs) H s1 := by
  have hpl : ps.length ≤ N.length := by have := congrArg List.length S.pre; rw [List.length_take] at this; omega
  obtain ⟨h1, tk, rfl, hk⟩ := x.done
  have noA : ∀ b : Addr, b ∉ (cxOf CX P w K mg base N qual scope f cd A outer s H E).ex := fun b z => absurd (show b ∈ ([] : List Addr) from z) (by simp)
  refine ⟨⟨e0.mod, S.kind, rfl, rfl, Nat.le_refl _, fun y z c h1 h2 => ?_, fun y hy => ?_, fun y c _ h => ?_, (fun z => absurd (show false = true from z) Bool.false_ne_true), Around.frames_deeper e0.frames, .inr ⟨rfl, rfl⟩, fun b z => absurd z (noA b), e0.bs, e0.bsz, fun b _ _ => noA b, fun b z => absurd z (noA b), e0.funs, e0.frf⟩,
    rfl, e0.bare, Un.kept hk, ⟨_, x.toInCall.ns, fun i y v h1 h2 h3 => ?_⟩, fun y c h => ⟨_, x.cell y c h⟩, e0.hok.fresh (Nat.le_refl _), fun y c h => ?_, fun p hp' => ?_, e0.hok.kept hk, ?_⟩
  · exact name_of_addr x.apart (PySem.mem_of_lookup h1) (PySem.mem_of_lookup h2)
  · have hy : scope.names.lookup y = some .cell ∨ scope.names.lookup y = some .free := hy
    rcases hy with hy | hy
    · exact cell_has hy
    · exact absurd rfl (S.nofree _ (PySem.mem_of_lookup hy))
  · exact Nat.le_of_lt (x.above y c (PySem.mem_of_lookup h))
  · have hi : i < vs.length := by
      unfold L2.start at h2
      by_cases hi : i < vs.length
      · exact hi
      · rw [List.getElem?_append_right (by simpa using hi)] at h2
        rw [List.getElem?_replicate] at h2
        split at h2 <;> cases h2
    have ha : vs[i]? = some v := by
      unfold L2.start at h2
      rw [List.getElem?_append_left (by simpa using hi), List.getElem?_map] at h2
      cases e : vs[i]? with
      | none => rw [e] at h2; cases h2
      | some a => rw [e] at h2; cases h2; rfl
    obtain ⟨u, hu, rv⟩ := r.get ha
    have hp : ps[i]? = some y := by
      rw [← S.pre, List.getElem?_take_of_lt (by omega)]; exact h1
    have ndP : ps.Nodup := by rw [← S.pre]; exact S.nd.sublist (List.take_sublist _ _)
    refine ⟨u, rv, ?_⟩
    rcases S.par y (List.mem_of_getElem? hp) with k | k
    · exact .inl ⟨k, bindL_get ndP hp hu k⟩
    · obtain ⟨c, e⟩ := cell_has (n := s.heap.objs.size + 1) k
      refine .inr ⟨.inl k, c, e, ?_⟩
      have q := x.cell y c e
      rw [bindC_get ndP hp hu (by show scope.names.lookup y ≠ _; rw [k]; decide)] at q
      exact q
  · exact e0.hok.fresh (Nat.le_of_lt (x.above y c (PySem.mem_of_lookup h)))
  · have hp2 : p ∈ [(a, oe)] := by
      have : p ∈ [(a, oe)] ++ [] := hp'
      simpa using this
    obtain rfl := List.mem_singleton.mp hp2
    exact ⟨hk _ _ hp.1, hp.2.1, Nat.ne_of_lt (Heap.lt_size hp.1), hp.2.2.1, hp.2.2.2⟩
  · unfold L2.start
    show _ = N.length
    rw [List.length_append, List.length_map, List.length_replicate]
    omega
theorem fn_ofE {CX : CXT} {P : Program} {w : World} {K : PySem.W.Frag} {mg : Str → Option Value} {base : Heap} {k : Nat} {f : Addr} {name qual : Str} {params : Arguments} {body : List Stmt} {scope : Scope} {dV kV doc pm cdv ct oc : Value} {an od : Option Addr}
    {osl : Array (Option Value)} {N ps : List Str} {sp : Sp} {a : Addr} {oe : Obj} (lk : K.lookup f = some ⟨oc, od, .func (PySem.W.fnOf name qual params body scope dV kV doc pm an cdv ct), osl⟩) (hcd : PySem.W.codeIn K cdv qual = true) (S : FnScope N ps scope)
    (len : ∀ vs H Q E, sp vs H Q E → vs.length = ps.length)
    (hbody : ∀ (A : Around) (outer : List Env) (s : Shared) (H : Hp) (vs : List V) (Q : VK) (E : XK), RoomS k (A.deeper (envOfC qual scope s.heap.objs.size f cdv)) → sp vs H Q E →
      ∃ t, PSs (Cx.held (cxOf CX P w K mg base N qual scope f cdv A outer s H E) [(a, oe)]) body t ∧ t { nx := fun _ H' => Q .non H', rt := Q } (L2.start N vs) H) :
    FnE P w K mg base CX a oe (k + 1) f (PySem.W.fnOf name qual params body scope dV kV doc pm an cdv ct) ps sp := by
  refine ⟨len, fun A outer s H args us vs Q E hr e0 hb r hpin hsp => ?_⟩
  have hl := len _ _ _ _ hsp
  have KX : K.In s.heap := e0.mod.kin.keeps fun b o e => (e0.bs b o e).1
  have lim : s.heap.NoLimit := e0.mod.nolimit.keeps fun b o e => (e0.bs b o e).1
  have hkind : ∀ y ∈ ps.zip us, scope.names.lookup y.1 = some .local ∨ (scope.names.lookup y.1 = some .cell ∧ ((cellsFrom (s.heap.objs.size + 1) scope.names []).lookup y.1).isSome = true) := fun ⟨n, v⟩ hy => by
    rcases S.par n (List.of_mem_zip hy).1 with q | q
    · exact .inl q
    · exact .inr ⟨q, PySem.W.cellsFrom_some _ _ _ (.inl q)⟩
  refine codeAny_call_function (by have := hr.dp; omega) (KX _ _ lk) rfl S.co S.gen rfl (PySem.W.codeRec_of KX hcd) (hb _ _ _ _ ?_)
  refine wpAny_newFunctionEnv_cells S.kind hkind fun env he s1 x => ?_
  subst he
  refine ⟨lim.keeps x.toInCall.keep, codeAny_func ?_⟩
  obtain ⟨t, ht, hq⟩ := hbody A outer s H vs Q E (hr.deeper _) hsp
  have I : Inv (Cx.held (cxOf CX P w K mg base N qual scope f cdv A outer s H E) [(a, oe)]) [] (L2.start N vs) H s1 := inv_startP S e0 hl r hpin x
  refine wpAny_mono (ht.run [] s1 (L2.start N vs) H _ I hq) (fun fl s' hs => ?_) fun e s' hs => hs
  have fin : ∀ {σ' : L2.St} {H' : Hp} {v : V} {u : Value}, Inv (Cx.held (cxOf CX P w K mg base N qual scope f cdv A outer s H E) [(a, oe)]) [] σ' H' s' → RelV v u → Q v H' → CE outer P w H s Q u s' :=
    fun {σ' H' v u} J rv q => ⟨v, H', J.os, J.bare, J.base, J.hok, rv, q⟩
  cases fl with
  | ret u =>
    obtain ⟨v, σ', H', J, rv, q⟩ := hs
    exact fin J rv q
  | next =>
    obtain ⟨σ', H', J, q⟩ := hs
    exact fin (v := V.non) (u := Value.none) J rfl q
  | brk =>
    obtain ⟨_, _, _, q⟩ := hs
    exact False.elim q
  | cont =>
    obtain ⟨_, _, _, q⟩ := hs
    exact False.elim q
theorem fn_okE {P : Program} {wd : World} {K : PySem.W.Frag} {mg : Str → Option Value} {base : Heap} {ca : Cad} {x qual : Str} {st : Stmt} {f : Addr} {fd : FuncData} {N ps : List Str} {k : Nat} {body : DS} {a : Addr} {oe : Obj} (F : Fun K x qual st f fd) (S : FnScope N ps (defScope st))
    (hb : ∀ (cdv : Value) (A : Around) (outer : List Env) (s : Shared) (H : Hp) (E : XK), RoomS k (A.deeper (envOfC qual (defScope st) s.heap.objs.size f cdv)) →
      SB (Cx.held (cxOf (L2.CX P wd) P wd K mg base N qual (defScope st) f cdv A outer s H E) [(a, oe)]) ca (fun cls d _ H => E cls d H) [] (defBody st) body) : FnE P wd K mg base (L2.CX P wd) a oe (k + 1) f fd ps (spF ⟨K, ca⟩ (mkFn N.length ps.length body)) := by
  obtain ⟨oc, od, kV, doc, pm, an, cdv, ct, osl, rfl, lk, hcd⟩ := F.ex
  exact fn_ofE lk hcd S (fun vs H Q E h => spF_len h) fun A outer s H vs Q E hr h => ⟨_, (hb cdv A outer s H E hr).pss, fn_body h⟩
structure CalE (P : Program) (wd : World) (K : PySem.W.Frag) (mg : Str → Option Value) (base : Heap) (ca : Cad) (k : Nat) (x : Str) (Fn : Nat → Nat → Ex → FnT) : Prop where
  ex : ∃ (f : Addr) (fd : FuncData) (ps : List Str), (∀ (a dd : Addr) (e : Ex) (oe : Obj) (d : Option Addr), Zc (.ref (ca e.c)) d oe → (∃ vs, oe.data = .fields vs) → d = (if e.ns = [] then none else some dd) → FnE P wd K mg base (L2.CX P wd) a oe k f fd ps (spF ⟨K, ca⟩ (Fn a dd e))) ∧
    mg x = some (.ref f) ∧ PySem.W.keepIn K (.ref f) = true ∧ Binds K fd ps []
theorem CalE.mk0 {P : Program} {wd : World} {K : PySem.W.Frag} {mg : Str → Option Value} {base : Heap} {ca : Cad} {k : Nat} {x qual : Str} {st : Stmt} {f : Addr} {fd : FuncData} {ps : List Str} {Fn : Nat → Nat → Ex → FnT} (F : Fun K x qual st f fd)
    (ok : ∀ (a dd : Addr) (e : Ex) (oe : Obj) (d : Option Addr), Zc (.ref (ca e.c)) d oe → (∃ vs, oe.data = .fields vs) → d = (if e.ns = [] then none else some dd) → FnE P wd K mg base (L2.CX P wd) a oe k f fd ps (spF ⟨K, ca⟩ (Fn a dd e))) (hm : mg x = some (.ref f)) (b : Binds K fd ps []) : CalE P wd K mg base ca k x Fn :=
  ⟨⟨f, fd, ps, ok, hm, F.kp, b⟩⟩
def callEk (a dd : Nat) (e : Ex) (Fn : FnT) (ρ : List T) : Option T → ER T
  | some (.imm b (.exn a' dd' ns vs)) => if b = false ∧ a' = a ∧ dd' = dd ∧ ns = e.ns then afterCall ρ (Fn [.imm false (.exn a' dd' ns vs)]) else .bad
  | _ => .bad
def dCallE (a dd : Nat) (e : Ex) (i : Nat) (Fn : FnT) : DE := fun ρ => callEk a dd e Fn ρ ρ[i]?
theorem se_callE (i : Nat) {k : Nat} {x xn : Str} {Fn : Nat → Nat → Ex → FnT} {p px pos : Pos} {a dd : Addr} {e : Ex} {oe : Obj} {d : Option Addr} (hp : (a, oe) ∈ X.pn) (hz : Zc (.ref (ca e.c)) d oe) (hf : ∃ vs, oe.data = .fields vs) (hd : d = (if e.ns = [] then none else some dd))
    (c : CalE X.prog X.w X.K X.mg X.base ca k x Fn) (hr : RoomS k X.A) (tk : Takes X W) (hst : X.stack = X.env :: X.outer) (hfr : X.env.frame = some X.env.locals)
    (hN : X.N[i]? = some xn := by rfl) (hv : Vis X.env.scope xn := by first | exact Or.inl rfl | exact Or.inr (Or.inl rfl) | exact Or.inr (Or.inr rfl)) (hdx : (xn == ("__debug__" : Str)) = false := by decide) (hcx : (xn == ("__classdict__" : Str)) = false := by decide)
    (hg : Gl X x := by rfl) (hdb : (x == ("__debug__" : Str)) = false := by decide) (he : starEach [.Name xn px] X.env = (false, eval (.Name xn px) X.env) :: starEach [] X.env := by rfl) (hpl : (backTo pos (starEach [] X.env)).any (·.1) = false := by rfl) :
    SE X ca W (.Call (.Name x p) [.Name xn px] [] pos) (dCallE a dd e i (Fn a dd e)) := by
  obtain ⟨f, fd, ps, F, hm, hk, hb⟩ := c.ex
  have F := F a dd e oe d hz hf hd
  refine ⟨⟨fun pins s σ H Q I q => ?_⟩⟩
  obtain ⟨w, ρ, S, kk⟩ := q
  unfold dCallE callEk at kk
  split at kk
  · rename_i b0 a' dd' ns vs hi
    split at kk
    · rename_i hh
      obtain ⟨rfl, rfl, rfl, hns⟩ := hh
      obtain ⟨g1, g2, g3⟩ := exc_slot S hi hns hd
      obtain ⟨yv, hyv, S1⟩ := S.move hi
      rw [g1] at hyv
      cases hyv
      have S2 : Stt ⟨X.K, ca⟩ w H ([T.imm false (.exn a' dd' ns vs)] ++ ρ) ([V.ref a'].map some ++ σ) := S.cons_imm (by
        obtain ⟨y, ey, r⟩ := S1.head_imm
        cases ey
        exact r)
      have sp : spF ⟨X.K, ca⟩ (Fn a' dd' e) [.ref a'] H Q (fun cls dx H' => W cls dx σ H') := by
        have := callT (Fn := Fn a' dd' e) (ds := []) (dvs := []) (vs := [V.ref a']) (ts := [T.imm false (.exn a' dd' ns vs)]) rfl S2 (fun _ _ => rfl) (by simpa using kk)
        simpa using this
      refine wpAny_Call_Name_kw (ld_glob I hg hm ?_ hdb)
      refine PySem.W.callWith_K (h₀ := X.base) I.ok.mod.kin hk (thn ((pa_cons (pe_var (i := i) hN hv hdx hcx) pa_nil he).run pos pins s σ H (fun vs' H' => vs' = [.ref a'] ∧ H' = H) I ⟨_, g1, rfl, rfl⟩) fun us s1 ⟨vs', H1, I1, r, q⟩ => ⟨I1.kIn, ?_⟩) he hpl
      obtain ⟨rfl, rfl⟩ := q
      have pin := I1.pin (a', oe) (List.mem_append_left _ hp)
      have hlu : us.length = ps.length := by rw [← r.length]; exact F.len _ _ _ _ sp
      refine wpAny_call (codeAny_mono (F.run X.A X.stack s1 H1 ⟨us, []⟩ us [.ref a'] Q _ hr I1.env0 (by have := hb s1 us I1.kIn (by simpa using hlu); simpa using this) r ⟨pin.1, pin.2.1, ?_, pin.2.2.2.2⟩ sp) fun r' s' hq => ?_)
      · rw [hst]
        intro z
        obtain ⟨en, hen, e2⟩ := List.mem_filterMap.mp z
        rcases List.mem_cons.mp hen with rfl | hen
        · rw [hfr] at e2
          exact pin.2.2.1 (Option.some.inj e2).symm
        · exact pin.2.2.2.1 (List.mem_filterMap.mpr ⟨en, hen, e2⟩)
      · cases r' with
        | error e' => exact passAt tk σ pins H1 s1 e' s' I1 hq
        | ok fl =>
          cases fl with
          | ret u => exact I1.after hq
          | next => exact False.elim hq
          | brk => exact False.elim hq
          | cont => exact False.elim hq
    · exact kk.elim
  · exact kk.elim
end
end Gb

namespace Gb
open PySem PySem.Spec L2 PySem.Calls PyProof.Rows
/-! try .. except x as n: .., and the rest of the def behind it with what was caught still in hand -/
def wAsR (K : PySem.W.Frag) (c : Value) (i : Nat) (ts : Addr → Value → Option Addr → TS) (tp : Addr → Value → Option Addr → TS) (Wout : WX) (D : Ends) : WX := fun cls d σ H =>
  ∃ b, PySem.W.exmOne K cls c = some b ∧ (b = true → ∀ a, H a = none → ts a cls d { nx := fun σ' H' => tp a cls d D (σ'.set i none) H', rt := D.rt, bk := fun σ' H' => D.bk (σ'.set i none) H', ct := fun σ' H' => D.ct (σ'.set i none) H' } (σ.set i (some (.ref a))) H) ∧
    (b = false → Wout cls d σ H)
section
variable {X : Cx} {x n : Str} {c : Value} {i : Nat} {body suite rest : List Stmt} {b₀ : Stmt} {np pos pos' : Pos} {tb : WX → TS} {ts tp : Addr → Value → Option Addr → TS} {tr : TS} {Wout : WX}
theorem pss_try_rest (hs : X.stack = X.env :: X.outer) (hf : X.env.frame = some X.env.locals) (hN : X.N.Nodup) (hi : X.N[i]? = some n) (hln : X.env.kindOf n = some .local) (hc : Names X x c) (tk : Takes X Wout)
    (hb : ∀ (W : WX) (pn : List (Addr × Obj)) (xe : Value → Shared → Prop), Takes (X.tr pn xe) W → PassesOwn (model X.prog X.w) X.A X.env xe → PSs (X.tr pn xe) body (tb W))
    (hsu : ∀ (a : Addr) (oe : Obj) (cls : Value) (d : Option Addr) (pn : List (Addr × Obj)), Zc cls d oe → (∃ vs, oe.data = .fields vs) → PSs (X.suite a ((a, oe) :: pn)) (b₀ :: suite) (ts a cls d))
    (hr0 : PSs X rest tr)
    (hrp : ∀ (a : Addr) (oe : Obj) (cls : Value) (d : Option Addr) (pn : List (Addr × Obj)), Zc cls d oe → (∃ vs, oe.data = .fields vs) → PSs (X.tr ((a, oe) :: pn) X.xe) rest (tp a cls d)) :
    PSs X (.Try body [.ExceptHandler (some (.Name x np)) (some n) (b₀ :: suite) pos'] [] [] pos :: rest) (fun D σ H => tb (wAsR X.K c i ts tp Wout D) { D with nx := fun σ' H' => tr D σ' H' } σ H) := by
  refine ⟨fun pins s σ H D I h => ?_⟩
  have ok := I.ok
  have hfr : X.A.frames = some (X.env :: X.outer) := by rw [ok.frames, hs]
  have hloc : Loc X.env.scope n := .inl hln
  refine wpAny_execs_cons ?_
  obtain ⟨P, eP⟩ : ∃ P : Flow → Shared → Prop, P = fun f s' => match f with | .next => wpAny (model X.prog X.w) X.A (execs rest X.env) (SP X pins D) X.xe s' | f => SP X pins D f s' := ⟨_, rfl⟩
  have goal : wpAny (model X.prog X.w) X.A (exec (.Try body [.ExceptHandler (some (.Name x np)) (some n) (b₀ :: suite) pos'] [] [] pos) X.env) P X.xe s := by
    refine wpAny_Try_except ?_
    refine wpAny_mono ((hb (wAsR X.K c i ts tp Wout D) (X.pn ++ pins) (fun e s₁ => wpAny (model X.prog X.w) X.A (noteFrame e X.env) (fun _ s₂ => wpAny (model X.prog X.w) X.A (setFlight e none) (fun _ s₃ =>
      wpAny (model X.prog X.w) X.A (handleBy e X.env [.ExceptHandler (some (.Name x np)) (some n) (b₀ :: suite) pos']) P X.xe s₃) X.xe s₂) X.xe s₁) (fun u s' xx => ?_) PassesOwn.looking).run [] s σ H { D with nx := fun σ' H' => tr D σ' H' } (I.toTry _) h) (fun f s1 hsp => ?_) (fun e s1 he => he)
    · -- the catch
      obtain ⟨a, B, sI, pins', σ', H', cls, d, rfl, J', nb, up, sky, na, os, ag, b, hb1, hyes, hno⟩ := xx
      have J : Inv X pins σ' H' sI := J'.ofTry ok
      have sky' : Sky B (X.env :: X.outer) a (Zc cls d) X.env.locals s'.heap := by rw [← hs]; exact sky
      show wpAny (model X.prog X.w) X.A (noteFrame (.ref a) X.env) _ _ _
      refine Sky.land Zc.steady hfr hf sky' fun h3 fl3 up3 => ?_
      have J3 : Inv X pins σ' H' { s' with heap := h3 } := J.landed nb fl3.1 (up.trans up3) os ag
      obtain ⟨oe3, vs3, he3, hz3, hd3⟩ := fl3.there
      have notFr : ∀ {h : Heap} {o : Obj} {vs : Array Value}, h.FunFrames B (X.env :: X.outer) → h.get? a = some o → o.data = .fields vs → a ∉ frs (X.env :: X.outer) := fun {h o vs} ff e dd hm => by
        obtain ⟨_, o', e', hnf⟩ := ff.mem hm
        rw [e] at e'; cases e'
        exact hnf _ dd
      have nfr := notFr fl3.2.2.1 he3 hd3
      have nL : a ≠ X.env.locals := fun z => nfr (List.mem_filterMap.mpr ⟨X.env, List.mem_cons_self, by rw [hf, z]⟩)
      have nF : a ∉ X.fs := fun hm => by
        obtain ⟨e, he, q⟩ := List.mem_filterMap.mp hm
        exact nfr (List.mem_filterMap.mpr ⟨e, List.mem_cons_of_mem _ he, q⟩)
      have S3 := J3.suite he3 hd3 na nL nF
      refine wpAny_handleBy_cons (codeAny_handlers_test ?_) (by intro q; cases q)
      have LT : PySem.W.Looks (model X.prog X.w) h3 (typeOf (.ref a)) cls := fun A Q E s k q => wpAny_typeOf_ref (k _ _ he3) (by rw [hz3.1]; exact q)
      have LM := PySem.W.exm_one (M := model X.prog X.w) (J3.kIn) LT hb1
      have test : ∀ {Q : Value → Shared → Prop} {E : Value → Shared → Prop}, Q c { s' with heap := h3 } → wpAny (model X.prog X.w) (X.A.mark (some (.ref a))) (eval (.Name x np) X.env) Q E { s' with heap := h3 } := fun {Q E} q => by
        obtain ⟨hg, hdbg, hm | ⟨hm, hv, hnn⟩⟩ := hc
        · exact ld_glob (X := X.suite a ((a, oe3) :: (X.pn ++ pins))) S3 hg hm q hdbg
        · exact ld_blt (X := X.suite a ((a, oe3) :: (X.pn ++ pins))) S3 hg hm hv q hnn hdbg
      refine test (LM.here ?_)
      cases b with
      | true =>
        refine codeAny_handlers_suite_as ?_
        refine HandSPX.lands_againZ fl3 fun h4 fl4 up4 => ?_
        have J4 : Inv X pins σ' H' { s' with heap := h4 } := J.landed nb fl4.1 ((up.trans up3).trans up4) os ag
        obtain ⟨oe4, vs4, he4, hz4, hd4⟩ := fl4.there
        have S4 := J4.suite he4 hd4 na nL nF
        refine store_ok (X := X.suite a ((a, oe4) :: (X.pn ++ pins))) (v := .ref a) S4 hN hi hloc rfl (fun s5 S5 => ?_) (.inr hln)
        refine wpAny_mono ((hsu a oe4 cls d (X.pn ++ pins) hz4 ⟨_, hd4⟩).run [] s5 _ H' _ S5 (hyes rfl a na)) (fun f s6 hsp => ?_) (fun _ _ z => False.elim z)
        have end_ : ∀ {σ6 : L2.St} {H6 : Hp} {Q : Shared → Prop}, Inv (X.suite a ((a, oe4) :: (X.pn ++ pins))) [] σ6 H6 s6 → (∀ s7, Inv X pins (σ6.set i none) H6 s7 → Q s7) →
            wpAny (model X.prog X.w) X.A (do bindName X.env n .none; unbindBehindTheSuite X.env n pos') (fun _ s7 => Q s7) X.xe s6 := fun {σ6 H6 Q} S6 hq => gone_ok (S6.unsuite ok) hN hi hln hq
        have endP : ∀ {σ6 : L2.St} {H6 : Hp} {Q : Shared → Prop}, Inv (X.suite a ((a, oe4) :: (X.pn ++ pins))) [] σ6 H6 s6 → (∀ s7, Inv (X.tr ((a, oe4) :: (X.pn ++ pins)) X.xe) [] (σ6.set i none) H6 s7 → Q s7) →
            wpAny (model X.prog X.w) X.A (do bindName X.env n .none; unbindBehindTheSuite X.env n pos') (fun _ s7 => Q s7) X.xe s6 := fun {σ6 H6 Q} S6 hq =>
          gone_ok (X := X.tr ((a, oe4) :: (X.pn ++ pins)) X.xe) (pins := []) ⟨ok.toTry _ _, S6.os, S6.bare, S6.base, S6.loc, S6.cell, S6.free, S6.freeC, S6.pin, S6.hok, S6.len⟩ hN hi hln hq
        cases f with
        | next =>
          obtain ⟨σ6, H6, S6, q6⟩ := hsp
          refine endP S6 fun s7 J7 => ?_
          rw [eP]
          refine wpAny_mono ((hrp a oe4 cls d (X.pn ++ pins) hz4 ⟨_, hd4⟩).run [] s7 _ H6 D J7 q6) (fun f8 s8 h8 => ?_) fun _ _ z => z
          have off : ∀ {σ8 : L2.St} {H8 : Hp}, Inv (X.tr ((a, oe4) :: (X.pn ++ pins)) X.xe) [] σ8 H8 s8 → Inv X pins σ8 H8 s8 := fun {σ8 H8} K8 =>
            ⟨ok, K8.os, K8.bare, K8.base, K8.loc, K8.cell, K8.free, K8.freeC, fun p hp => K8.pin p (List.mem_append_left _ (List.mem_cons_of_mem _ hp)), K8.hok, K8.len⟩
          cases f8 with
          | next => obtain ⟨σ8, H8, K8, q8⟩ := h8; exact ⟨_, _, off K8, q8⟩
          | brk => obtain ⟨σ8, H8, K8, q8⟩ := h8; exact ⟨_, _, off K8, q8⟩
          | cont => obtain ⟨σ8, H8, K8, q8⟩ := h8; exact ⟨_, _, off K8, q8⟩
          | ret u => obtain ⟨v8, σ8, H8, K8, r8, q8⟩ := h8; exact ⟨_, _, _, off K8, r8, q8⟩
        | brk =>
          obtain ⟨σ6, H6, S6, q6⟩ := hsp
          refine end_ S6 fun s7 J7 => ?_
          rw [eP]
          exact ⟨_, _, J7, q6⟩
        | cont =>
          obtain ⟨σ6, H6, S6, q6⟩ := hsp
          refine end_ S6 fun s7 J7 => ?_
          rw [eP]
          exact ⟨_, _, J7, q6⟩
        | ret u =>
          obtain ⟨v6, σ6, H6, S6, r6, q6⟩ := hsp
          refine end_ S6 fun s7 J7 => ?_
          rw [eP]
          exact ⟨_, _, _, J7, r6, q6⟩
      | false =>
        show wpAny _ X.A (handleBy (.ref a) X.env []) _ _ _
        refine wpAny_handleBy_nil ?_
        obtain ⟨k1, k2, k3, oe, vs, T, oT, ts', he, hz, hd, h1, hr⟩ := id fl3
        unfold PySem.passOn
        refine wpAny_bind (wpAny_field he hd h1 ?_)
        rw [if_neg (show ¬ ((Value.ref T == Value.none) = true) from by simp)]
        have fin : wpAny (model X.prog X.w) X.A (setFlight (.ref a) X.env.frame) (fun _ s4 => wpAny (model X.prog X.w) X.A (throw (.ref a) : Sem Flow) P X.xe s4) X.xe { s' with heap := h3 } := by
          rw [hf]
          refine HandSPX.setFlight_upZ fl3 fun h4 hh4 up4 => wpAny_throw (tk _ _ ?_)
          exact ⟨a, B, sI, pins, σ', H', cls, d, rfl, J, nb, (up.trans up3).trans up4, .inr (.inr (by rw [hs]; exact hh4)), na, os, ag, hno rfl⟩
        first
          | exact wpAny_bind (wpAny_pure (wpAny_bind fin))
          | exact wpAny_bind fin
    · cases f with
      | next =>
        obtain ⟨σ', H', J', q⟩ := hsp
        refine wpAny_execs_nil ?_
        rw [eP]
        exact hr0.run pins s1 σ' H' D (J'.ofTry ok) q
      | brk =>
        obtain ⟨σ', H', J', q⟩ := hsp
        rw [eP]
        exact ⟨σ', H', J'.ofTry ok, q⟩
      | cont =>
        obtain ⟨σ', H', J', q⟩ := hsp
        rw [eP]
        exact ⟨σ', H', J'.ofTry ok, q⟩
      | ret u =>
        obtain ⟨v, σ', H', J', r, q⟩ := hsp
        rw [eP]
        exact ⟨v, σ', H', J'.ofTry ok, r, q⟩
  rw [eP] at goal
  refine wpAny_mono goal (fun f s' hq => ?_) fun _ _ z => z
  cases f <;> exact hq
end
section
variable {C : Ct} {W : WX} {pn ch : List Nat} {w w' : Wd} {H H' : Hp} {σ σ' : L2.St} {En : Ends} {X : Cx} {ca : Cad} {ρ : List T} {t u o : T} {v x : Option V} {p : Addr} {c : Nat}
theorem Stt.tails (S : Stt C w H (t :: ρ) (v :: σ)) : Stt C w H (t :: List.replicate ρ.length .dead) (v :: σ) := by
  have l := S.len
  have S1 : Stt C w H [t] [v] := by
    have := S.take1 (n := 0)
    simpa using this
  have S2 := S1.dead_append ρ.length
  refine Stt.alt S2 (by simp at l ⊢; omega) fun j => ?_
  cases j with
  | zero => exact .inr rfl
  | succ j =>
    by_cases hj : j < ρ.length
    · exact .inl (by simp [hj])
    · right
      simp at l
      rw [List.getElem?_eq_none (by simp; omega), List.getElem?_eq_none (by simp; omega)]
/-- what the suite and the rest tell -/
def tryRest (i : Nat) (ds dp : Nat → Nat → Ex → DS) (a dd : Nat) (e : Ex) (ρ : List T) : Option T := match ds a dd e (ρ.set i (.imm false (exD a dd e))) with
  | .next ρ1 => (match dp a dd e (ρ1.set i .dead) with
    | .ret t ρ2 => if ρ2.length = ρ.length then some t else none
    | _ => none)
  | _ => none
open Classical in
noncomputable def tryRk (i : Nat) (r : Nat → Option Bool) (d0 : DS) (ds dp : Nat → Nat → Ex → DS) : SR → SR
  | .next ρ1 => d0 ρ1
  | .exc e ρ1 => (match r e.c with
    | some true => (match tryRest i ds dp 0 0 e ρ1 with
      | some t => if i < ρ1.length ∧ ∀ a dd, tryRest i ds dp a dd e ρ1 = some t then .ret t (List.replicate ρ1.length .dead) else .bad
      | none => .bad)
    | some false => .exc e ρ1
    | none => .bad)
  | q => q
noncomputable def dTryR (i : Nat) (r : Nat → Option Bool) (db d0 : DS) (ds dp : Nat → Nat → Ex → DS) : DS := fun ρ => tryRk i r d0 ds dp (db ρ)
theorem sb_tryR {xn n : Str} {c : Value} {i : Nat} {body suite rest : List Stmt} {b₀ : Stmt} {np pos pos' : Pos} {db d0 : DS} {ds dp : Nat → Nat → Ex → DS} {r : Nat → Option Bool} (hs : X.stack = X.env :: X.outer) (hf : X.env.frame = some X.env.locals) (hN : X.N.Nodup) (hi : X.N[i]? = some n)
    (hln : X.env.kindOf n = some .local) (hc : Names X xn c) (tk : Takes X W) (hr : CatchF X.K ca c r) (hp : i ∉ pn)
    (hb : ∀ (W : WX) (pn' : List (Addr × Obj)) (xe : Value → Shared → Prop), Takes (X.tr pn' xe) W → PassesOwn (model X.prog X.w) X.A X.env xe → SB (X.tr pn' xe) ca W pn body db)
    (hsu : ∀ (a dd : Addr) (e : Ex) (oe : Obj) (d : Option Addr) (pn' : List (Addr × Obj)), L2.Zc (.ref (ca e.c)) d oe → (∃ vs, oe.data = .fields vs) → d = (if e.ns = [] then none else some dd) → SB (X.suite a ((a, oe) :: pn')) ca WF pn (b₀ :: suite) (ds a dd e))
    (h0 : SB X ca W pn rest d0)
    (hrp : ∀ (a dd : Addr) (e : Ex) (oe : Obj) (d : Option Addr) (pn' : List (Addr × Obj)), L2.Zc (.ref (ca e.c)) d oe → (∃ vs, oe.data = .fields vs) → d = (if e.ns = [] then none else some dd) → SB (X.tr ((a, oe) :: pn') X.xe) ca W pn rest (dp a dd e)) :
    SB X ca W pn (.Try body [.ExceptHandler (some (.Name xn np)) (some n) (b₀ :: suite) pos'] [] [] pos :: rest) (dTryR i r db d0 ds dp) := by
  refine ⟨PSs.imp (pss_try_rest (c := c) (ts := fun a cls d D σ H => ∃ q : Ex × Addr, (cls = .ref (ca q.1.c) ∧ d = if q.1.ns = [] then none else some q.2) ∧ tS ⟨X.K, ca⟩ WF pn (ds a q.2 q.1) D σ H)
    (tp := fun a cls d D σ H => ∃ q : Ex × Addr, (cls = .ref (ca q.1.c) ∧ d = if q.1.ns = [] then none else some q.2) ∧ tS ⟨X.K, ca⟩ W pn (dp a q.2 q.1) D σ H) (tb := fun W => tS ⟨X.K, ca⟩ W pn db) hs hf hN hi hln hc tk
    (fun W pn' xe t p => (hb W pn' xe t p).pss) (fun a oe cls d pn' hz hv => PSs.ex fun q hq => ?_) h0.pss (fun a oe cls d pn' hz hv => PSs.ex fun q hq => ?_)) fun D σ H h => ?_⟩
  · obtain ⟨rfl, hd⟩ := hq
    exact (hsu a q.2 q.1 oe d pn' hz hv hd).pss
  · obtain ⟨rfl, hd⟩ := hq
    exact (hrp a q.2 q.1 oe d pn' hz hv hd).pss
  · obtain ⟨w, ρ, S, k⟩ := h
    refine ⟨w, ρ, S, ?_⟩
    unfold dTryR at k
    cases eb : db ρ with
    | next ρ1 =>
      rw [eb] at k
      unfold tryRk at k
      simp only at k
      intro w1 H1 σ1 A1 S1 P1
      exact ⟨w1, ρ1, S1, kS.after A1 P1 k⟩
    | ret t ρ1 => rw [eb] at k; exact k
    | brk ρ1 => rw [eb] at k; exact k
    | cont ρ1 => rw [eb] at k; exact k
    | bad => rw [eb] at k; exact k
    | exc e ρ1 =>
      rw [eb] at k
      unfold tryRk at k
      simp only at k
      intro w1 H1 σ1 cls dx A1 S1 P1 x1
      have k1 := kS.after A1 P1 k
      cases er : r e.c with
      | none => simp only [er] at k1; exact k1.elim
      | some b =>
        simp only [er] at k1
        have ex1 := x1.1
        refine ⟨b, by rw [ex1]; exact hr _ _ er, fun hbt a ha => ?_, fun hbf => ?_⟩
        · subst hbt
          simp only at k1
          split at k1
          case h_2 => exact k1.elim
          rename_i t et
          split at k1
          case isFalse => exact k1.elim
          rename_i hall
          obtain ⟨hi0, hall⟩ := hall
          obtain ⟨dd, hd, hx⟩ : ∃ dd : Addr, dx = (if e.ns = [] then none else some dd) ∧ RD ⟨X.K, ca⟩ H1 (w1.im false) (exD a dd e) (.ref a) := by
            rcases x1.2 with ⟨h1, h2, h3⟩ | ⟨d, fs, h3, h0, h4, h5, h6, h7⟩
            · exact ⟨0, by rw [if_pos h1]; exact h3, rfl, .inl h1⟩
            · exact ⟨d, by rw [if_neg h0]; exact h3, rfl, .inr ⟨fs, .inl h4, h5, h6, RDs_mono (fun a z => ⟨.inl z, rfl⟩) _ _ h7⟩⟩
          have hq := hall a dd
          unfold tryRest at hq
          cases e1 : ds a dd e (ρ1.set i (.imm false (exD a dd e))) with
          | next ρ2 =>
            rw [e1] at hq
            simp only at hq
            cases e2 : dp a dd e (ρ2.set i .dead) with
            | ret t' ρ3 =>
              rw [e2] at hq
              simp only at hq
              split at hq
              · rename_i hlen
                cases hq
                refine ⟨(e, dd), ⟨ex1, hd⟩, w1, _, (S1.cons_imm hx).put hi0, ?_⟩
                rw [e1]
                intro w2 H2 σ2 A2 S2 P2
                have P3 : Same' pn σ1 (σ2.set i none) := fun j hj => by
                  have hij : i ≠ j := fun z => hp (z ▸ hj)
                  rw [List.getElem?_set_ne hij, P2 j hj, List.getElem?_set_ne hij]
                refine ⟨(e, dd), ⟨ex1, hd⟩, w2, ρ2.set i .dead, ?_, ?_⟩
                · have q := S2.setDead (i := i)
                  refine q.alt (by simp) fun j => ?_
                  by_cases e : j = i
                  · subst e
                    by_cases hl : j < ρ2.length
                    · exact .inl (by rw [List.getElem?_set_self hl])
                    · right
                      have := S2.len
                      rw [List.getElem?_eq_none (by simp; omega), List.getElem?_eq_none (by omega)]
                  · exact .inr (by rw [List.getElem?_set_ne (fun z => e z.symm)])
                · rw [e2]
                  intro w3 H3 σ3 v3 A3 S3 P4
                  have k2 := kS.after A2 P3 k1
                  have S4 := S3.tails
                  rw [hlen] at S4
                  exact k2 w3 H3 σ3 v3 A3 S4 P4
              · cases hq
            | next _ => rw [e2] at hq; cases hq
            | brk _ => rw [e2] at hq; cases hq
            | cont _ => rw [e2] at hq; cases hq
            | exc _ _ => rw [e2] at hq; cases hq
            | bad => rw [e2] at hq; cases hq
          | ret _ _ => rw [e1] at hq; cases hq
          | brk _ => rw [e1] at hq; cases hq
          | cont _ => rw [e1] at hq; cases hq
          | exc _ _ => rw [e1] at hq; cases hq
          | bad => rw [e1] at hq; cases hq
        · subst hbf
          simp only at k1
          exact k1 w1 H1 σ1 cls dx .refl S1 .refl x1
theorem dTryR_next {i : Nat} {r : Nat → Option Bool} {db d0 : DS} {ds dp : Nat → Nat → Ex → DS} {ρ ρ1 : List T} (h1 : db ρ = .next ρ1) : dTryR i r db d0 ds dp ρ = d0 ρ1 := by
  unfold dTryR
  rw [h1]
  rfl
theorem dTryR_exc {i : Nat} {r : Nat → Option Bool} {db d0 : DS} {ds dp : Nat → Nat → Ex → DS} {ρ ρ1 : List T} {e : Ex} (h1 : db ρ = .exc e ρ1) (h2 : r e.c = some true) (h0 : i < ρ1.length) (h3 : ∀ a dd, tryRest i ds dp a dd e ρ1 = some t) : dTryR i r db d0 ds dp ρ = .ret t (List.replicate ρ1.length .dead) := by
  unfold dTryR
  rw [h1]
  unfold tryRk
  simp only [h2, h3 0 0]
  rw [if_pos ⟨h0, h3⟩]
end
end Gb

namespace Gb
open PySem PySem.Spec L2
section
variable {C : Ct} {W : WX} {pn ch : List Nat} {w w' : Wd} {H H' : Hp} {σ σ' : L2.St} {En : Ends} {X : Cx} {ca : Cad} {ρ : List T} {t u o : T} {v x : Option V} {c : Nat}
/-! a list of own and other things: an item put otherwise; insert and pop of an item that is an own list -/
theorem Stt.setO {ts : List T} {p : Addr} {vs : List V} {y : V} {k : Nat} (h : Stt C w H (.lst ts :: t :: ρ) (some (.ref p) :: some y :: σ)) (hp : H p = some (.lst vs)) (hk : k < ts.length) :
    After w H w (upd H p (.lst (vs.set k y))) ∧ Stt C w (upd H p (.lst (vs.set k y))) (.lst (ts.set k t) :: ρ) (some (.ref p) :: σ) := by
  obtain ⟨F, ⟨v0, r0, f1, f2, e, ⟨a, vs', f, e3, g, rd, rfl⟩, ⟨v1, r1, f3, f4, e', h3, h4, rfl⟩, rfl⟩, nd, out, tr, tb⟩ := h
  injection e with e1 e2
  subst e1; subst e2
  injection e' with e1 e2
  subst e1; subst e2
  cases e3
  rw [hp] at g
  cases g
  obtain ⟨y0, g1, fp, g2, hv, rt, rfl, put⟩ := rd.at (List.getElem?_eq_getElem hk)
  have op := out p (by simp)
  have ne : ∀ b, (w.I b ∨ w.B b ∨ w.R b) → b ≠ p := fun b z e => by
    subst e
    rcases z with z | z | z
    · exact op.1 z
    · exact op.2.1 z
    · exact op.2.2 z
  have nf : ∀ b, b ∈ g1 ++ fp ++ g2 ∨ b ∈ f3 ∨ b ∈ f4 → b ≠ p := fun b hb e => by
    subst e
    rw [List.cons_append, List.nodup_cons] at nd
    exact nd.1 (by simp only [List.mem_append] at hb ⊢; rcases hb with ((hb | hb) | hb) | hb | hb <;> simp [hb])
  have mono : ∀ {ts : List T} {us : List (Option V)} {f' : List Addr}, (∀ b ∈ f', b ∈ g1 ++ fp ++ g2 ∨ b ∈ f3 ∨ b ∈ f4) → RTs C w H ts us f' → RTs C w (upd H p (.lst (vs.set k y))) ts us f' := fun hb r =>
    RTs_mono (w := w) (H := H) (fun b z => ⟨z, upd_ne (ne b (.inl z))⟩) (fun b z => ⟨z, upd_ne (ne b (.inr (.inl z)))⟩) _ _ _ (fun b z => upd_ne (nf b (hb b z))) r
  have q1 := mono (fun b z => by
    simp only [List.mem_append] at z ⊢
    rcases z with (z | z) | z
    · exact .inl (.inl (.inl z))
    · exact .inr (.inl z)
    · exact .inl (.inr z)) (put t (some y) f3 h3)
  have q3 := mono (fun b z => .inr (.inr z)) h4
  have sb : (p :: (g1 ++ g2) ++ (f3 ++ f4)).Sublist (p :: (g1 ++ fp ++ g2) ++ (f3 ++ f4)) := by
    simp only [List.cons_append, List.append_assoc]
    refine List.Sublist.cons₂ _ (List.Sublist.append_left ?_ g1)
    exact List.sublist_append_right fp _
  have pm : (p :: (g1 ++ f3 ++ g2) ++ f4).Perm (p :: (g1 ++ g2) ++ (f3 ++ f4)) := by
    simp only [List.cons_append, List.append_assoc]
    refine List.Perm.cons p (List.Perm.append_left g1 ?_)
    exact (List.perm_append_comm_assoc f3 g2 f4)
  refine ⟨⟨fun _ z => z, rfl, rfl, fun _ z => .inl z, fun b z => upd_ne (ne b z)⟩, p :: (g1 ++ f3 ++ g2) ++ f4, ⟨_, σ, p :: (g1 ++ f3 ++ g2), f4, rfl, ⟨p, vs.set k y, g1 ++ f3 ++ g2, rfl, upd_same, ?_, rfl⟩, q3, rfl⟩, pm.nodup_iff.mpr (nd.sublist sb), fun b hb => out b (sb.subset (pm.mem_iff.mp hb)), fun b z => ?_, tabs_wr tb hp⟩
  · rw [List.map_set]
    exact q1
  · rw [upd_ne (ne b z)]; exact tr b z
/-- xs[m] = e, the item is laid over -/
def putIx (i m : Nat) (t : T) (ρ1 : List T) : Option (List T) → Option T → SR
  | some ts, some (.imm _ (.int j)) => (match ixN ts.length j with
    | some k => .next (ρ1.set i (.lst (ts.set k t)))
    | none => .bad)
  | _, _ => .bad
def dPutIx (i m : Nat) (de : DE) : DS := dEx de fun t ρ1 => putIx i m t ρ1 ((ρ1[i]?).bind asO) ρ1[m]?
theorem ss_putIx (i m : Nat) {x xm : Str} {e : Expr} {de : DE} {px pm spos pos : Pos} (he : SE X ca W e de) (hN : X.N[i]? = some x := by rfl) (hv : Vis X.env.scope x := by first | exact Or.inl rfl | exact Or.inr (Or.inl rfl) | exact Or.inr (Or.inr rfl))
    (hd : (x == ("__debug__" : Str)) = false := by decide) (hcd : (x == ("__classdict__" : Str)) = false := by decide)
    (hNm : X.N[m]? = some xm := by rfl) (hvm : Vis X.env.scope xm := by first | exact Or.inl rfl | exact Or.inr (Or.inl rfl) | exact Or.inr (Or.inr rfl)) (hdm : (xm == ("__debug__" : Str)) = false := by decide) (hcm : (xm == ("__classdict__" : Str)) = false := by decide)
    (ha : ∀ v, assign (.Subscript (.Name x px) (.Name xm pm) spos) X.env v = (do
      let ov ← holding [v] (eval (.Name x px) X.env)
      let iv ← holding [v, ov] (eval (.Name xm pm) X.env)
      standAt spos
      holding [v, ov, iv] (setItem ov iv v)
      release [v, ov, iv] []) := by intro _; rfl)
    (hs : swapsWithSole [.Subscript (.Name x px) (.Name xm pm) spos] e pos.line X.env = pure false := by rfl) (hw : swappedStores [.Subscript (.Name x px) (.Name xm pm) spos] e X.env = pure none := by rfl)
    (h1 : (assignEach [.Subscript (.Name x px) (.Name xm pm) spos] X.env).map (·.2) = [assign (.Subscript (.Name x px) (.Name xm pm) spos) X.env] := by rfl) :
    SS X ca W pn (.Assign [.Subscript (.Name x px) (.Name xm pm) spos] e pos) (dPutIx i m de) :=
  ⟨PS.imp (ps_asg he.pe (pg_sub (pe_var hN hv hd hcd) (pe_var hNm hvm hdm hcm) set_list ha) hs hw h1) fun En σ H q => exS q fun w H t ρ v S k => by
    unfold putIx at k
    split at k
    · rename_i ts b j e0 em
      split at k
      · rename_i kn hkn
        obtain ⟨p, hp, S1⟩ := S.atO (i := i + 1) (by simpa using e0)
        have hp' : σ[i]? = some (some (.ref p)) := by simpa using hp
        obtain ⟨_, vs, ep, hH, hl⟩ := S1.head_lst
        cases ep
        obtain ⟨vm, hvm', Sm⟩ := S.move (i := m + 1) (by simpa using em)
        obtain rfl : vm = some (.int j) := by
          obtain ⟨y, rfl, r⟩ := Sm.head_imm
          have e : y = V.int j := r
          rw [e]
        have hvm2 : σ[m]? = some (some (.int j)) := by simpa using hvm'
        have hlt : kn < ts.length := by
          unfold ixN at hkn
          first
            | (split at hkn <;> simp_all <;> omega)
            | (simp at hkn; omega)
        rw [List.set_cons_succ] at S1
        obtain ⟨A3, S3⟩ := S1.setO hH hlt
        refine ⟨_, hp', _, hvm2, p, vs, j, kn, rfl, rfl, hH, by rw [hl]; exact hkn, ?_⟩
        exact k w _ _ A3 (S3.backO hp' (bind_len e0)) .refl
      · exact k.elim
    · exact k.elim⟩
/-- xs[m].insert(q, z) -/
def insI (i q : Nat) (z : Int) (ρ : List T) : Option (List T) → Option T → Option T → ER T
  | some ts, some (.imm _ (.int j)), some (.imm _ (.int k)) => (match inner ts j with
    | some (jn, ds) => if ds.length < 16777216 ∧ 0 ≤ k ∧ k < 9223372036854775808 then .ok (.imm false .non) (ρ.set i (.lst (ts.set jn (.lstI (ds.take k.toNat ++ [.int z] ++ ds.drop k.toNat))))) else .bad
    | none => .bad)
  | _, _, _ => .bad
def dInsI (i m q : Nat) (z : Int) : DE := fun ρ => insI i q z ρ ((ρ[i]?).bind asO) ρ[m]? ρ[q]?
theorem se_insI (i m q : Nat) {x xm xq : Str} {z : Int} {zk : Nat} {px pm pq pz spos apos cpos : Pos} (hN : X.N[i]? = some x := by rfl) (hv : Vis X.env.scope x := by first | exact Or.inl rfl | exact Or.inr (Or.inl rfl) | exact Or.inr (Or.inr rfl))
    (hd : (x == ("__debug__" : Str)) = false := by decide) (hcd : (x == ("__classdict__" : Str)) = false := by decide)
    (hNm : X.N[m]? = some xm := by rfl) (hvm : Vis X.env.scope xm := by first | exact Or.inl rfl | exact Or.inr (Or.inl rfl) | exact Or.inr (Or.inr rfl)) (hdm : (xm == ("__debug__" : Str)) = false := by decide) (hcm : (xm == ("__classdict__" : Str)) = false := by decide)
    (hNq : X.N[q]? = some xq := by rfl) (hvq : Vis X.env.scope xq := by first | exact Or.inl rfl | exact Or.inr (Or.inl rfl) | exact Or.inr (Or.inr rfl)) (hdq : (xq == ("__debug__" : Str)) = false := by decide) (hcq : (xq == ("__classdict__" : Str)) = false := by decide)
    (hbase : attributeBase (.Subscript (.Name x px) (.Name xm pm) spos) "insert" X.env (eval (.Subscript (.Name x px) (.Name xm pm) spos) X.env) = eval (.Subscript (.Name x px) (.Name xm pm) spos) X.env := by rfl)
    (hfew : ((backTo cpos (starEach (.Name xq pq :: [.Constant (.int z) zk pz]) X.env)).all (fun x => !x.1) && (backToKw cpos (keywordEach [] X.env)).all (fun x => x.1.isSome) && decide ((.Name xq pq :: [.Constant (.int z) zk pz] : List Expr).length + ([] : List Keyword).length + (if ([] : List Keyword).isEmpty then 0 else 1) < 30)) = true := by rfl)
    (hline : (apos.endLine == cpos.line) = true := by rfl) (hs : starEach (.Name xq pq :: [.Constant (.int z) zk pz]) X.env = (false, eval (.Name xq pq) X.env) :: starEach [.Constant (.int z) zk pz] X.env := by rfl) (hs2 : starEach [.Constant (.int z) zk pz] X.env = (false, eval (.Constant (.int z) zk pz) X.env) :: starEach [] X.env := by rfl)
    (hplain : (backTo cpos (starEach [.Constant (.int z) zk pz] X.env)).any (·.1) = false := by rfl) :
    SE X ca W (.Call (.Attribute (.Subscript (.Name x px) (.Name xm pm) spos) "insert" apos) [.Name xq pq, .Constant (.int z) zk pz] [] cpos) (dInsI i m q z) :=
  ⟨PE.imp (pe_bm PySem.F.plainAttrs_list PySem.F.slot_list_insert PySem.F.type_list_insert mt_insert (pe_ix ix_seq (pe_var hN hv hd hcd) (pe_var hNm hvm hdm hcm) (fun _ _ => rfl)) (pa_cons (pe_var hNq hvq hdq hcq) (pa_cons pe_int pa_nil hs2) hs) hbase hfew hline hs hplain) fun σ H Q qq => by
    obtain ⟨w, ρ, S, kk⟩ := qq
    unfold dInsI insI at kk
    split at kk
    · rename_i ts b j b2 k e0 em eq
      split at kk
      · rename_i jn ds hin
        split at kk
        · rename_i hh
          obtain ⟨hjn, hds⟩ := inner_spec hin
          obtain ⟨p, hp, S0⟩ := S.atO e0
          obtain ⟨vs, qa, us, hHp, hvq', hHq, rq, wr⟩ := S0.wrO hds
          have lvs : vs.length = ts.length := by
            obtain ⟨_, vs', ep, hH', l'⟩ := S0.head_lst
            cases ep
            rw [hHp] at hH'
            cases hH'
            exact l'
          obtain ⟨vm, hvm', Sm⟩ := S.move em
          obtain rfl : vm = some (.int j) := by
            obtain ⟨y, rfl, r⟩ := Sm.head_imm
            have e : y = V.int j := r
            rw [e]
          obtain ⟨vq, hvq2, Sq⟩ := S.move eq
          obtain rfl : vq = some (.int k) := by
            obtain ⟨y, rfl, r⟩ := Sq.head_imm
            have e : y = V.int k := r
            rw [e]
          have rn : RDs ⟨X.K, ca⟩ H w.I (ds.take k.toNat ++ [.int z] ++ ds.drop k.toNat) (us.take k.toNat ++ [.int z] ++ us.drop k.toNat) :=
            ((rq.take _).append (show RDs ⟨X.K, ca⟩ H w.I [.int z] [.int z] from ⟨.int z, [], rfl, rfl, rfl⟩)).append (rq.drop _)
          obtain ⟨A3, S3⟩ := wr _ _ rn
          have S4 := S3.backO hp (bind_len e0)
          refine ⟨_, hp, _, hvm', .inl ⟨p, vs, j, .ref qa, rfl, rfl, .of hHp, by rw [atI_of (by rw [lvs]; exact hjn)]; exact hvq', ⟨.inl ⟨rfl, us, .of hHq⟩, _, hvq2, qa, us, k, .int z, rfl, rfl, hHq, by rw [sizeLine_eq]; have := rq.length; omega, hh.2.1, hh.2.2, kk w _ .non A3 (S4.cons_imm rfl)⟩⟩⟩
        · exact kk.elim
      · exact kk.elim
    · exact kk.elim⟩
/-- xs[m].pop(q) -/
def popI (i : Nat) (ρ : List T) : Option (List T) → Option T → Option T → ER T
  | some ts, some (.imm _ (.int j)), some (.imm _ (.int k)) => (match inner ts j with
    | some (jn, ds) => (match ds[k.toNat]? with
      | some d => if 0 ≤ k ∧ k < 9223372036854775808 then .ok (.imm false d) (ρ.set i (.lst (ts.set jn (.lstI (ds.eraseIdx k.toNat))))) else .bad
      | none => .bad)
    | none => .bad)
  | _, _, _ => .bad
def dPopI (i m q : Nat) : DE := fun ρ => popI i ρ ((ρ[i]?).bind asO) ρ[m]? ρ[q]?
theorem RDs.eraseIdx {A : Addr → Prop} : ∀ {ds : List D} {vs : List V} (n : Nat), RDs C H A ds vs → RDs C H A (ds.eraseIdx n) (vs.eraseIdx n) := fun {ds vs} n r => by
  rw [List.eraseIdx_eq_take_drop_succ, List.eraseIdx_eq_take_drop_succ]
  exact (r.take n).append (r.drop (n + 1))
theorem se_popI (i m q : Nat) {x xm xq : Str} {px pm pq spos apos cpos : Pos} (hN : X.N[i]? = some x := by rfl) (hv : Vis X.env.scope x := by first | exact Or.inl rfl | exact Or.inr (Or.inl rfl) | exact Or.inr (Or.inr rfl))
    (hd : (x == ("__debug__" : Str)) = false := by decide) (hcd : (x == ("__classdict__" : Str)) = false := by decide)
    (hNm : X.N[m]? = some xm := by rfl) (hvm : Vis X.env.scope xm := by first | exact Or.inl rfl | exact Or.inr (Or.inl rfl) | exact Or.inr (Or.inr rfl)) (hdm : (xm == ("__debug__" : Str)) = false := by decide) (hcm : (xm == ("__classdict__" : Str)) = false := by decide)
    (hNq : X.N[q]? = some xq := by rfl) (hvq : Vis X.env.scope xq := by first | exact Or.inl rfl | exact Or.inr (Or.inl rfl) | exact Or.inr (Or.inr rfl)) (hdq : (xq == ("__debug__" : Str)) = false := by decide) (hcq : (xq == ("__classdict__" : Str)) = false := by decide)
    (hbase : attributeBase (.Subscript (.Name x px) (.Name xm pm) spos) "pop" X.env (eval (.Subscript (.Name x px) (.Name xm pm) spos) X.env) = eval (.Subscript (.Name x px) (.Name xm pm) spos) X.env := by rfl)
    (hfew : ((backTo cpos (starEach (.Name xq pq :: []) X.env)).all (fun x => !x.1) && (backToKw cpos (keywordEach [] X.env)).all (fun x => x.1.isSome) && decide ((.Name xq pq :: [] : List Expr).length + ([] : List Keyword).length + (if ([] : List Keyword).isEmpty then 0 else 1) < 30)) = true := by rfl)
    (hline : (apos.endLine == cpos.line) = true := by rfl) (hs : starEach (.Name xq pq :: []) X.env = (false, eval (.Name xq pq) X.env) :: starEach [] X.env := by rfl)
    (hplain : (backTo cpos (starEach [] X.env)).any (·.1) = false := by rfl) :
    SE X ca W (.Call (.Attribute (.Subscript (.Name x px) (.Name xm pm) spos) "pop" apos) [.Name xq pq] [] cpos) (dPopI i m q) :=
  ⟨PE.imp (pe_bm PySem.F.plainAttrs_list PySem.F.slot_list_pop PySem.F.type_list_pop mt_popAt (pe_ix ix_seq (pe_var hN hv hd hcd) (pe_var hNm hvm hdm hcm) (fun _ _ => rfl)) (pa_cons (pe_var hNq hvq hdq hcq) pa_nil hs) hbase hfew hline hs hplain) fun σ H Q qq => by
    obtain ⟨w, ρ, S, kk⟩ := qq
    unfold dPopI popI at kk
    split at kk
    · rename_i ts b j b2 k e0 em eq
      split at kk
      · rename_i jn ds hin
        split at kk
        · rename_i d hdd
          split at kk
          · rename_i hh
            obtain ⟨hjn, hds⟩ := inner_spec hin
            obtain ⟨p, hp, S0⟩ := S.atO e0
            obtain ⟨vs, qa, us, hHp, hvq', hHq, rq, wr⟩ := S0.wrO hds
            have lvs : vs.length = ts.length := by
              obtain ⟨_, vs', ep, hH', l'⟩ := S0.head_lst
              cases ep
              rw [hHp] at hH'
              cases hH'
              exact l'
            obtain ⟨vm, hvm', Sm⟩ := S.move em
            obtain rfl : vm = some (.int j) := by
              obtain ⟨y, rfl, r⟩ := Sm.head_imm
              have e : y = V.int j := r
              rw [e]
            obtain ⟨vq, hvq2, Sq⟩ := S.move eq
            obtain rfl : vq = some (.int k) := by
              obtain ⟨y, rfl, r⟩ := Sq.head_imm
              have e : y = V.int k := r
              rw [e]
            obtain ⟨y, hy, ry⟩ := rq.get hdd
            have hlk : k.toNat < us.length := (List.getElem?_eq_some_iff.mp hy).1
            have hsq : seqIndex? k us.length = some k.toNat := by
              unfold seqIndex?
              first
                | (rw [if_pos (by omega)]; done)
                | (simp; omega)
                | (split <;> simp_all <;> omega)
            obtain ⟨A3, S3⟩ := wr _ _ (RDs.eraseIdx k.toNat rq)
            have S4 := S3.backO hp (bind_len e0)
            have ry' : RD ⟨X.K, ca⟩ (upd H qa (.lst (us.eraseIdx k.toNat))) w.I d y := RD_mono (fun a z => ⟨z, A3.keep a (.inl z)⟩) _ _ ry
            refine ⟨_, hp, _, hvm', .inl ⟨p, vs, j, .ref qa, rfl, rfl, .of hHp, by rw [atI_of (by rw [lvs]; exact hjn)]; exact hvq', ⟨.inl ⟨rfl, us, .of hHq⟩, _, hvq2, qa, us, k, k.toNat, y, rfl, rfl, hHq, by omega, hh.2, hsq, hy, kk w _ y A3 (S4.cons_imm (RD_mono (fun a z => ⟨.inl z, rfl⟩) _ _ ry'))⟩⟩⟩
          · exact kk.elim
        · exact kk.elim
      · exact kk.elim
    · exact kk.elim⟩
def putIxk (i m : Nat) : T → List T → SR := fun t ρ1 => putIx i m t ρ1 ((ρ1[i]?).bind asO) ρ1[m]?
theorem v_PutIx {i m : Nat} {de : DE} : dPutIx i m de ρ = exk (de ρ) (putIxk i m) := by
  unfold dPutIx dEx exk
  cases de ρ <;> rfl
theorem v_putIxk {i m : Nat} : putIxk i m t ρ = putIx i m t ρ ((ρ[i]?).bind asO) ρ[m]? := rfl
def putIxb (i : Nat) (t : T) (ρ : List T) (ts : List T) : Option Nat → SR
  | some k => .next (ρ.set i (.lst (ts.set k t)))
  | none => .bad
theorem v_putIx {i m : Nat} {ts : List T} {b : Bool} {j : Int} : putIx i m t ρ (some ts) (some (.imm b (.int j))) = putIxb i t ρ ts (ixN ts.length j) := by
  unfold putIx putIxb
  simp only
theorem v_putIxb {i k : Nat} {ts : List T} : putIxb i t ρ ts (some k) = .next (ρ.set i (.lst (ts.set k t))) := rfl
theorem v_InsI {i m q : Nat} {z : Int} : dInsI i m q z ρ = insI i q z ρ ((ρ[i]?).bind asO) ρ[m]? ρ[q]? := rfl
def insIb (i : Nat) (z k : Int) (ρ ts : List T) : Option (Nat × List D) → ER T
  | some (jn, ds) => if ds.length < 16777216 ∧ 0 ≤ k ∧ k < 9223372036854775808 then .ok (.imm false .non) (ρ.set i (.lst (ts.set jn (.lstI (ds.take k.toNat ++ [.int z] ++ ds.drop k.toNat))))) else .bad
  | none => .bad
theorem v_insI {i q : Nat} {z j k : Int} {b b2 : Bool} {ts : List T} : insI i q z ρ (some ts) (some (.imm b (.int j))) (some (.imm b2 (.int k))) = insIb i z k ρ ts (inner ts j) := by
  unfold insI insIb
  simp only
theorem v_insIb {i jn : Nat} {z k : Int} {ts : List T} {ds : List D} (h : ds.length < 16777216 ∧ 0 ≤ k ∧ k < 9223372036854775808) : insIb i z k ρ ts (some (jn, ds)) = .ok (.imm false .non) (ρ.set i (.lst (ts.set jn (.lstI (ds.take k.toNat ++ [.int z] ++ ds.drop k.toNat))))) := if_pos h
theorem v_PopI {i m q : Nat} : dPopI i m q ρ = popI i ρ ((ρ[i]?).bind asO) ρ[m]? ρ[q]? := rfl
def popIb (i : Nat) (k : Int) (ρ ts : List T) : Option (Nat × List D) → ER T
  | some (jn, ds) => (match ds[k.toNat]? with
      | some d => if 0 ≤ k ∧ k < 9223372036854775808 then .ok (.imm false d) (ρ.set i (.lst (ts.set jn (.lstI (ds.eraseIdx k.toNat))))) else .bad
      | none => .bad)
  | none => .bad
theorem v_popI {i : Nat} {j k : Int} {b b2 : Bool} {ts : List T} : popI i ρ (some ts) (some (.imm b (.int j))) (some (.imm b2 (.int k))) = popIb i k ρ ts (inner ts j) := by
  unfold popI popIb
  simp only
theorem popIb_ok {i jn : Nat} {k : Int} {ts : List T} {ds : List D} {d : D} (h1 : ds[k.toNat]? = some d) (h : 0 ≤ k ∧ k < 9223372036854775808) : popIb i k ρ ts (some (jn, ds)) = .ok (.imm false d) (ρ.set i (.lst (ts.set jn (.lstI (ds.eraseIdx k.toNat))))) := by
  unfold popIb
  simp only [h1, h, and_self, if_true]
theorem v_CallE {a dd i : Nat} {e : Ex} {Fn : FnT} : dCallE a dd e i Fn ρ = callEk a dd e Fn ρ ρ[i]? := rfl
theorem v_callEk {a dd c : Nat} {ns : List Str} {vs us : List D} {Fn : FnT} : callEk a dd ⟨c, ns, vs⟩ Fn ρ (some (.imm false (.exn a dd ns us))) = afterCall ρ (Fn [.imm false (.exn a dd ns us)]) := if_pos ⟨rfl, rfl, rfl, rfl⟩
theorem takes_tr0 {pn' : List (Addr × Obj)} (h : X.pn = []) (tk : Takes X W) : Takes (X.tr pn' X.xe) W := fun u s' ⟨a, B, sI, pins, σ, H, cls, d, e, I, nb, up, sky, na, os, ag, w⟩ =>
  tk u s' ⟨a, B, sI, [], σ, H, cls, d, e, ⟨I.ok.ofTry, I.os, I.bare, I.base, I.loc, I.cell, I.free, I.freeC, (fun p hp => by rw [h] at hp; simp at hp), I.hok, I.len⟩, nb, up, sky, na, os, ag, w⟩
/-! isinstance(t, C) of a tuple and an exception's class -/
theorem kit_factN {K : PySem.W.Frag} {E : Addr} (ht : PySem.W.typeIn K (.ref E) = some (.type "type")) (hd : PySem.W.hasDictIn K E = true) : PySem.W.kitOne K (.type "tuple") (.ref E) = some false := by
  unfold PySem.W.kitOne
  rw [if_neg (by simp)]
  obtain ⟨cd, hc, _⟩ := PySem.W.any_some hd
  show (if ((PySem.W.clsIn K E).isSome && PySem.W.typeIn K (.ref E) == some (.type "type")) = true then PySem.W.subIn K (.type "tuple") (.ref E) else none) = _
  rw [if_pos (by rw [hc, ht]; rfl)]
  rfl
def isNk : T → DE
  | .imm _ (.tup _) => fun ρ => .ok (.imm false (.bl false)) ρ
  | _ => fun _ => .bad
def dIsN (de : DE) : DE := d1 isNk de
theorem se_isN {e ec : Expr} {de : DE} {c : V} {u0 : Value} {p pos : Pos} (he : SE X ca W e de) (hm : X.mg "isinstance" = none) (cl : ClsE X ec c u0) (hk : PySem.W.kitOne X.K (.type "tuple") u0 = some false) (hg : Gl X "isinstance" := by rfl)
    (h1 : starEach [e, ec] X.env = (false, eval e X.env) :: starEach [ec] X.env := by rfl) (h2 : starEach [ec] X.env = (false, eval ec X.env) :: starEach [] X.env := by rfl) (hpl : (backTo pos (starEach [ec] X.env)).any (·.1) = false := by rfl) :
    SE X ca W (.Call (.Name "isinstance" p) [e, ec] [] pos) (dIsN de) :=
  ⟨PE.imp (pe_callB call_isi hg hm PyProof.Rows.boot_isinstance (pa_cons he.pe (pa_cons cl.pe pa_nil h2) h1) (by decide) (by decide) h1 hpl) fun σ H Q q => one (f := isNk) (r := fun v H1 Q => rIsi X.K [v, c] H1 Q) q fun w H x ρ v S k => by
    unfold isNk at k
    split at k
    · rename_i b xs
      obtain ⟨x', ex, rx⟩ := S.head_imm
      cases ex
      have ty := RD.kind (C := ⟨X.K, ca⟩) rx (show D.kind (.tup xs) = some "tuple" from rfl)
      exact ⟨_, c, .type "tuple", u0, false, rfl, cl.cv, ty, hk, k w H _ .refl (S.drop.cons_imm rfl)⟩
    · exact k.elim⟩
theorem v_IsN {de : DE} : dIsN de ρ = bnd (de ρ) isNk := rfl
theorem v_isNk {b : Bool} {xs : List D} : isNk (.imm b (.tup xs)) ρ = .ok (.imm false (.bl false)) ρ := rfl
end
end Gb

namespace Gb
open PySem PySem.Spec L2
section
variable {C : Ct} {W : WX} {pn ch : List Nat} {w w' : Wd} {H H' : Hp} {σ σ' : L2.St} {En : Ends} {X : Cx} {ca : Cad} {ρ : List T} {t u o : T} {v x : Option V} {c : Nat}
/-! xs == [], whatever xs holds -/
theorem op_eqN (hu : X.A.units + 64 < cLine) : OpR X (compareOp .Eq) (fun x y H Q => ∃ l b xs ys, x = .ref l ∧ y = .ref b ∧ SqL X.K H l xs ∧ SqL X.K H b ys ∧ xs.length ≠ ys.length ∧ Q (.bl false) H) := by
  intro pins s σ H x y v u Q I rx ry h
  obtain ⟨l, b, xs, ys, rfl, rfl, h1, h2, hne, q⟩ := h
  cases rx
  cases ry
  obtain ⟨its, r1, pl1, hz1⟩ := I.list h1
  obtain ⟨its2, r2, pl2, hz2⟩ := I.list h2
  have l1 := r1.length
  have l2 := r2.length
  exact SeqAt.eq_list_lengthsAt pl1.isList pl2.isList (by simp only [List.size_toArray, bne_iff_ne]; omega) (by omega) ⟨.bl false, H, I, rfl, q⟩
def gEmp : D → D → Option D
  | .lst [], .lst [] => some (.bl true)
  | .lst (_ :: _), .lst [] => some (.bl false)
  | _, _ => none
theorem ops_eqE (hu : X.A.units + 64 < cLine) : OpS X ca W (compareOp .Eq) (fS gEmp) := by
  refine ⟨_, OpR.or (op_eqD hu) (op_eqN hu), fun w H σ Q x y ρ v u S k => ?_⟩
  unfold fS at k
  split at k
  · rename_i b d c e
    obtain ⟨x', ex, r1⟩ := S.head_imm
    cases ex
    obtain ⟨y', ey, r2⟩ := S.drop.head_imm
    cases ey
    unfold gEmp at k
    split at k
    · rename_i hq
      split at hq
      · cases hq
        obtain ⟨p, p', e1, e2, s1, s2, e3⟩ := eqv_inv eqv_nil_nil
        exact .inl ⟨p, p', RD_py _ _ _ r1 e1, RD_py _ _ _ r2 e2, s1, s2, by rw [← e3]; exact ok_scal S k rfl⟩
      · rename_i d0 ds
        cases hq
        obtain ⟨a, vs, rfl, l1, rd⟩ := r1
        obtain ⟨a2, vs2, rfl, l2, rd2⟩ := r2
        have q1 := rd.length
        have q2 := rd2.length
        refine .inr ⟨a, a2, vs, vs2, rfl, rfl, .inl (.of l1.2), .inl (.of l2.2), ?_, ok_scal S k rfl⟩
        simp at q1 q2
        omega
      · cases hq
    · exact k.elim
  · exact k.elim
theorem v_gEmp0 : gEmp (.lst []) (.lst []) = some (.bl true) := rfl
theorem v_gEmp1 {d : D} {ds : List D} : gEmp (.lst (d :: ds)) (.lst []) = some (.bl false) := rfl
end
end Gb


namespace Gb
open PySem PySem.Spec L2
open PyProof.Rows (envOfC)
def top (i : Nat) : Stmt := PySem.Challenge.pw_glowboard_k04_what_makes_no_picture.main.body.getD i (.Pass ⟨0, 0, 0, 0⟩)
structure Bi (mg : Str → Option Value) : Prop where
  ValueError_ : mg "ValueError" = none
  all_ : mg "all" = none
  bool_ : mg "bool" = none
  int_ : mg "int" = none
  isinstance : mg "isinstance" = none
  len : mg "len" = none
  list_ : mg "list" = none
  range : mg "range" = none
  reversed : mg "reversed" = none
  str_ : mg "str" = none
  tuple_ : mg "tuple" = none
  g_COLOURS : ∃ t, mg "COLOURS" = some (.int 16 t)
  g_MOST : ∃ t, mg "MOST" = some (.int 64 t)
abbrev ksT : List Nat := [7]
def xfOk_row (k : Nat) : Bool := decide (k ∈ [7])
structure Bx (P : Program) (wd : World) (K : PySem.W.Frag) (mg : Str → Option Value) (ca : Cad) : Prop where
  g_GlowError : mg "GlowError" = some (.ref (ca 0))
  catch_GlowError : CatchF K ca (.ref (ca 0)) (isT ksT 0)
  is_GlowError : IsF K ca (.ref (ca 0)) (isT ksT 0)
  in_GlowError : PySem.W.kitOne K (.type "tuple") (.ref (ca 0)) = some false
  g_NoFont : mg "NoFont" = some (.ref (ca 3))
  catch_NoFont : CatchF K ca (.ref (ca 3)) (isT ksT 3)
  is_NoFont : IsF K ca (.ref (ca 3)) (isT ksT 3)
  g_NoLine : mg "NoLine" = some (.ref (ca 4))
  catch_NoLine : CatchF K ca (.ref (ca 4)) (isT ksT 4)
  is_NoLine : IsF K ca (.ref (ca 4)) (isT ksT 4)
  g_NoNote : mg "NoNote" = some (.ref (ca 6))
  catch_NoNote : CatchF K ca (.ref (ca 6)) (isT ksT 6)
  is_NoNote : IsF K ca (.ref (ca 6)) (isT ksT 6)
  g_NoPicture : mg "NoPicture" = some (.ref (ca 7))
  catch_NoPicture : CatchF K ca (.ref (ca 7)) (isT ksT 7)
  is_NoPicture : IsF K ca (.ref (ca 7)) (isT ksT 7)
  g_NoRow : mg "NoRow" = some (.ref (ca 8))
  catch_NoRow : CatchF K ca (.ref (ca 8)) (isT ksT 8)
  is_NoRow : IsF K ca (.ref (ca 8)) (isT ksT 8)
  g_NoTable : mg "NoTable" = some (.ref (ca 12))
  catch_NoTable : CatchF K ca (.ref (ca 12)) (isT ksT 12)
  is_NoTable : IsF K ca (.ref (ca 12)) (isT ksT 12)
  g_NoText : mg "NoText" = some (.ref (ca 13))
  catch_NoText : CatchF K ca (.ref (ca 13)) (isT ksT 13)
  is_NoText : IsF K ca (.ref (ca 13)) (isT ksT 13)
  i_NoPicture : ExI P wd K mg (ca 7) "NoPicture" [("row" : PySem.Str)]
  xf_row : XfF K ca ("row" : PySem.Str) xfOk_row
  is_ValueError : IsF K ca (.type "ValueError") (isT ksT 100)
theorem boot_VE : bootBuiltins "ValueError" = some (.type "ValueError") := by decide +kernel
def den_is_whole : DS := (dRet (dAnd (dBi fIsi (dCons (dVar 0) (dCons (dC (.ty "int")) dNil))) (dNot (dBi fIsi (dCons (dVar 0) (dCons (dC (.ty "bool")) dNil))))))
def F_is_whole : FnT := mkFn 1 1 den_is_whole
def den_is_cell : DS := (dRet (dOr (d2 oIs (dVar 0) (dC .non)) (dAnd (dCall F_is_whole [] (dCons (dVar 0) dNil)) (dChain oLe oLt (dC (.int 0)) (dVar 0) (dC (.int 16))))))
def F_is_cell : FnT := mkFn 1 1 den_is_cell
def den_is_row : DS := (dSeq (dIf (dtOr (dtNot (dtVal (dBi fIsi (dCons (dVar 0) (dCons (dC (.ty "list")) dNil))))) (dtVal (d2 oNe (dLenV 0) (dVar 1)))) (dRet (dC (.bl false))) dPass)
    (dRet (dBi (fBools fun bs => bs.all id) (dCons (dFr (dLc [2] (dgName 2) (diVal (dVar 0)) dtYes (dFr (dCall F_is_cell [] (dCons (dVar 2) dNil))))) dNil))))
def F_is_row : FnT := mkFn 3 2 den_is_row
def bd_row_bits_1 : DS := (dIf (dtVal (d2 oIsNot (dIxV 0 (dVar 3)) (dC .non))) (dSeq (dSet 1 (d2 oOr (dVar 1) (d2 oShl (dIxV 0 (dVar 3)) (dFr (d2 fMul (dC (.int 4)) (dVar 3))))))
    (dSet 2 (d2 oOr (dVar 2) (d2 oShl (dC (.int 1)) (dVar 3))))) dPass)
def den_row_bits : DS := (dSeq (dSet 1 (dC (.int 0)))
    (dSeq (dSet 2 (dC (.int 0)))
    (dSeq (dFor (dgName 3) (diRange1 (dCons (dLenV 0) dNil)) bd_row_bits_1)
    (dRet (dTup (dCons (dVar 1) (dCons (dVar 2) dNil)))))))
def F_row_bits : FnT := mkFn 4 1 den_row_bits
def bd_pictured_1 : DS := (dIf (dtNot (dtVal (dCall F_is_row [] (dCons (dIxV 0 (dVar 2)) (dCons (dVar 1) dNil))))) (dRaiseF 7 [("row" : PySem.Str)] (dCons (dVar 2) dNil)) dPass)
def den_pictured : DS := (dSeq (dIf (dtOr (dtNot (dtVal (dBi fIsi (dCons (dVar 0) (dCons (dC (.ty "list")) dNil))))) (dtNot (dtVal (dChain oLe oLe (dC (.int 1)) (dLenV 0) (dC (.int 64)))))) (dRaiseF 7 [("row" : PySem.Str)] (dCons (dC .non) dNil)) dPass)
    (dSeq (dIf (dtOr (dtNot (dtVal (dBi fIsi (dCons (dIxV 0 (dC (.int 0))) (dCons (dC (.ty "list")) dNil))))) (dtNot (dtVal (dChain oLe oLe (dC (.int 1)) (dBi fLen (dCons (dIxV 0 (dC (.int 0))) dNil)) (dC (.int 64)))))) (dRaiseF 7 [("row" : PySem.Str)] (dCons (dC (.int 0)) dNil)) dPass)
    (dSeq (dSet 1 (dBi fLen (dCons (dIxV 0 (dC (.int 0))) dNil)))
    (dSeq (dFor (dgName 2) (diRange1 (dCons (dLenV 0) dNil)) bd_pictured_1)
    (dSeq (dSet 3 (dLc [4] (dgName 4) (diVal (dVar 0)) dtYes (dFr (dCall F_row_bits [] (dCons (dVar 4) dNil)))))
    (dSeq (dSet 5 (dBi fTuple (dCons (dFr (dLc [6] (dgName 6) (diVal (dVar 3)) dtYes (dIxV 6 (dC (.int 0))))) dNil)))
    (dRet (dTup (dCons (dVar 1) (dCons (dLenV 0) (dCons (dVar 5) (dCons (dBi fTuple (dCons (dFr (dLc [6] (dgName 6) (diVal (dVar 3)) dtYes (dIxV 6 (dC (.int 1))))) dNil)) dNil))))))))))))
def F_pictured : FnT := mkFn 7 1 den_pictured
def den_L_draw : DS := (dSeq (dSet 3 (dC (.int 0)))
    (dSeq (dIf (dtVal (d2 oGt (dLenV 0) (dC (.int 0)))) (dSet 3 (d2 oMod (dIxV 0 (d2 oMod (dVar 1) (dLenV 0))) (dC (.int 999999937)))) dPass)
    (dSeq (dSet 3 (d2 fAdd (d2 fMul (d2 fAdd (dVar 3) (dC (.int 1))) (dC (.int 16807))) (d2 fMul (d2 fMul (d2 fAdd (dVar 1) (dC (.int 3))) (d2 fAdd (dVar 1) (dC (.int 3)))) (dC (.int 40009)))))
    (dRet (d2 oMod (d2 oMod (d2 fMul (d2 oMod (dVar 3) (dC (.int 1000000007))) (dC (.int 30011))) (dC (.int 998244353))) (dVar 2))))))
def F_L_draw : FnT := mkFn 4 3 den_L_draw
def den_L_great : DS := (dSeq (dSet 3 (dC (.int 0)))
    (dSeq (dIf (dtVal (d2 oGt (dLenV 0) (dC (.int 0)))) (dSet 3 (dIxV 0 (d2 oMod (dVar 1) (dLenV 0)))) dPass)
    (dRet (d2 oMod (d2 fAdd (d2 fMul (d2 oMod (dVar 3) (dVar 2)) (dC (.int 48271))) (d2 fMul (d2 fMul (d2 fAdd (dVar 1) (dC (.int 1))) (d2 fAdd (dVar 1) (dC (.int 1)))) (dC (.int 2654435761)))) (dVar 2)))))
def F_L_great : FnT := mkFn 4 3 den_L_great
def den_L_alike (F_L_alike : FnT) : DS := (dSeq (dIf (dtVal (dBi fIsi (dCons (dVar 1) (dCons (dTup (dCons (dC (.ty "tuple")) (dCons (dC (.ty "list")) dNil))) dNil)))) (dSeq (dIf (dtOr (dtVal (d2 oNe (dBi fIsi (dCons (dVar 1) (dCons (dC (.ty "tuple")) dNil))) (dBi fIsi (dCons (dVar 0) (dCons (dC (.ty "tuple")) dNil))))) (dtVal (d2 oNe (dBi fIsi (dCons (dVar 1) (dCons (dC (.ty "list")) dNil))) (dBi fIsi (dCons (dVar 0) (dCons (dC (.ty "list")) dNil)))))) (dRet (dC (.bl false))) dPass)
    (dSeq (dIf (dtVal (d2 oNe (dLenV 0) (dLenV 1))) (dRet (dC (.bl false))) dPass)
    (dRet (dBi (fBools fun bs => bs.all id) (dCons (dFr (dLc [2] (dgName 2) (diRange1 (dCons (dLenV 1) dNil)) dtYes (dFr (dCall F_L_alike [] (dCons (dIxV 0 (dVar 2)) (dCons (dIxV 1 (dVar 2)) dNil)))))) dNil))))) dPass)
    (dSeq (dIf (dtOr (dtVal (d2 oIs (dVar 1) (dC .non))) (dtVal (d2 oIs (dVar 0) (dC .non)))) (dRet (dAnd (d2 oIs (dVar 1) (dC .non)) (d2 oIs (dVar 0) (dC .non)))) dPass)
    (dSeq (dIf (dtOr (dtVal (dBi fIsi (dCons (dVar 1) (dCons (dC (.ty "bool")) dNil)))) (dtVal (dBi fIsi (dCons (dVar 0) (dCons (dC (.ty "bool")) dNil))))) (dRet (dAnd (dBi fIsi (dCons (dVar 1) (dCons (dC (.ty "bool")) dNil))) (dAnd (dBi fIsi (dCons (dVar 0) (dCons (dC (.ty "bool")) dNil))) (d2 oEq (dVar 0) (dVar 1))))) dPass)
    (dSeq (dIf (dtVal (dBi fIsi (dCons (dVar 1) (dCons (dC (.ty "str")) dNil)))) (dRet (dAnd (dBi fIsi (dCons (dVar 0) (dCons (dC (.ty "str")) dNil))) (d2 oEq (dVar 0) (dVar 1)))) dPass)
    (dRet (dAnd (dBi fIsi (dCons (dVar 0) (dCons (dC (.ty "int")) dNil))) (d2 oEq (dVar 0) (dVar 1))))))))
def Fr_L_alike : Nat → FnT
  | 0 => fun _ => .bad
  | n + 1 => mkFn 3 2 (den_L_alike (Fr_L_alike n))
def F_L_alike : FnT := Fr_L_alike 10
def den_L_sides : DS := (dSeq (dSet 2 (d2 fAdd (dC (.int 1)) (dFr (dCall F_L_draw [] (dCons (dVar 0) (dCons (dVar 1) (dCons (dC (.int 6)) dNil)))))))
    (dSeq (dSet 3 (d2 fAdd (dC (.int 1)) (dFr (dCall F_L_draw [] (dCons (dVar 0) (dCons (d2 fAdd (dVar 1) (dC (.int 1))) (dCons (dC (.int 6)) dNil)))))))
    (dSeq (dSet 4 (dCall F_L_draw [] (dCons (dVar 0) (dCons (d2 fAdd (dVar 1) (dC (.int 2))) (dCons (dC (.int 10)) dNil)))))
    (dSeq (dIf (dtVal (d2 oEq (dVar 4) (dC (.int 0)))) (dRet (dTup (dCons (d2 oSub (dC (.int 64)) (d2 oDiv (dVar 3) (dC (.int 2)))) (dCons (d2 fAdd (dC (.int 1)) (d2 oMod (dVar 2) (dC (.int 2)))) dNil)))) dPass)
    (dSeq (dIf (dtVal (d2 oEq (dVar 4) (dC (.int 1)))) (dRet (dTup (dCons (d2 fAdd (dC (.int 1)) (d2 oMod (dVar 3) (dC (.int 2)))) (dCons (d2 oSub (dC (.int 64)) (d2 oDiv (dVar 2) (dC (.int 2)))) dNil)))) dPass)
    (dRet (dTup (dCons (dVar 2) (dCons (dVar 3) dNil)))))))))
def F_L_sides : FnT := mkFn 5 2 den_L_sides
def bd_L_rows_1 : DS := (dSeq (dSet 9 (dCall F_L_draw [] (dCons (dVar 0) (dCons (d2 fAdd (d2 fAdd (d2 fAdd (dVar 1) (dC (.int 3))) (dFr (d2 fMul (dVar 6) (dVar 2)))) (dVar 8)) (dCons (dVar 4) dNil)))))
    (dSeq (dIf (dtVal (d2 oGt (dVar 9) (dC (.int 15)))) (dSet 9 (dC .non)) dPass)
    (dDrop (dAppend 7 (dVar 9)))))
def bd_L_rows_2 : DS := (dSeq (dSet 7 (dLst dNil))
    (dSeq (dFor (dgName 8) (diRange1 (dCons (dVar 2) dNil)) bd_L_rows_1)
    (dDrop (dAppend 5 (dVar 7)))))
def den_L_rows : DS := (dSeq (dSet 4 (d2 fIx (dFr (dLst (dCons (dC (.int 16)) (dCons (dC (.int 24)) (dCons (dC (.int 40)) (dCons (dC (.int 300)) dNil)))))) (dCall F_L_draw [] (dCons (dVar 0) (dCons (dVar 1) (dCons (dC (.int 4)) dNil))))))
    (dSeq (dSet 5 (dLst dNil))
    (dSeq (dFor (dgName 6) (diRange1 (dCons (dVar 3) dNil)) bd_L_rows_2)
    (dRet (dMove 5)))))
def F_L_rows : FnT := mkFn 10 4 den_L_rows
def bd_L_packed_1 : DS := (dSeq (dSet 4 (d2 fMul (dVar 4) (dC (.int 16))))
    (dSeq (dSet 5 (d2 fMul (dVar 5) (dC (.int 2))))
    (dIf (dtVal (d2 oIsNot (dVar 6) (dC .non))) (dSeq (dSet 4 (d2 fAdd (dVar 4) (dVar 6)))
    (dSet 5 (d2 fAdd (dVar 5) (dC (.int 1))))) dPass)))
def bd_L_packed_2 : DS := (dSeq (dSet 4 (dC (.int 0)))
    (dSeq (dSet 5 (dC (.int 0)))
    (dSeq (dFor (dgName 6) (diRev (dVar 3)) bd_L_packed_1)
    (dSeq (dDrop (dAppend 1 (dVar 4)))
    (dDrop (dAppend 2 (dVar 5)))))))
def den_L_packed : DS := (dSeq (dSet 1 (dLst dNil))
    (dSeq (dSet 2 (dLst dNil))
    (dSeq (dFor (dgName 3) (diVal (dVar 0)) bd_L_packed_2)
    (dRet (dTup (dCons (dBi fLen (dCons (dIxV 0 (dC (.int 0))) dNil)) (dCons (dLenV 0) (dCons (dBi fTuple (dCons (dVar 1) dNil)) (dCons (dBi fTuple (dCons (dVar 2) dNil)) dNil)))))))))
def F_L_packed : FnT := mkFn 7 1 den_L_packed
def den_L_no_cell : DS := (dSeq (dSet 2 (dCall F_L_great [] (dCons (dVar 0) (dCons (dVar 1) (dCons (d2 oSub (d2 oPow (dC (.int 10)) (dC (.int 60))) (dC (.int 16))) dNil)))))
    (dSeq (dSet 3 (dLst (dCons (dC (.bl true)) (dCons (dC (.bl false)) (dCons (dC (.int 16)) (dCons (d1 (fU fun i => -i) (dC (.int 1))) (dCons (d2 fAdd (dC (.int 16)) (dVar 2)) (dCons (d2 oSub (d1 (fU fun i => -i) (dC (.int 1))) (dVar 2)) (dCons (dC (.str ("1" : PySem.Str))) (dCons (dC (.str ("" : PySem.Str))) (dCons (dFr (dLst (dCons (dC (.int 3)) dNil))) (dCons (dTup (dCons (dC (.int 3)) dNil)) (dCons (dFr (dDic1 (dC (.int 3)) (dC (.int 3)))) (dCons (dFr (dLst dNil)) (dCons (dTup dNil) dNil)))))))))))))))
    (dRet (dIxV 3 (dCall F_L_draw [] (dCons (dVar 0) (dCons (d2 fAdd (dVar 1) (dC (.int 1))) (dCons (dC (.int 13)) dNil))))))))
def F_L_no_cell : FnT := mkFn 4 2 den_L_no_cell
def den_L_no_row : DS := (dSeq (dSet 3 (dLst (dCons (dC .non) (dCons (dC (.int 3)) (dCons (dC (.bl true)) (dCons (dC (.str ("" : PySem.Str))) (dCons (dC (.str ("12" : PySem.Str))) (dCons (dBi fTuple (dCons (dVar 2) dNil)) (dCons (dFr (dDic1 (dC (.int 0)) (dC (.int 1)))) (dCons (dFr (dLst dNil)) (dCons (dFr (d2 fMul (dFr (dLst (dCons (dC (.int 1)) dNil))) (dC (.int 65)))) (dCons (dFr (d2 fAdd (dFr (d2 fMul (dFr (dLst (dCons (dC .non) dNil))) (dC (.int 64)))) (dFr (dLst (dCons (dC (.int 1)) dNil))))) dNil))))))))))))
    (dRet (dIxV 3 (dCall F_L_draw [] (dCons (dVar 0) (dCons (dVar 1) (dCons (dC (.int 10)) dNil)))))))
def F_L_no_row : FnT := mkFn 4 3 den_L_no_row
def den_L_spoiled : DS := (dSeq (dSet 3 (dLcO [4] (dgName 4) (diVal (dVar 2)) dtYes (dIfE (dtNot (dtVal (dBi fIsi (dCons (dVar 4) (dCons (dC (.ty "list")) dNil))))) (dVar 4) (dBi fList (dCons (dVar 4) dNil)))))
    (dSeq (dSet 5 (dLend 3 (dCall F_L_draw [] (dCons (dVar 0) (dCons (dVar 1) (dCons (dLenV 3) dNil))))))
    (dSeq (dSet 6 (dCall F_L_draw [] (dCons (dVar 0) (dCons (d2 fAdd (dVar 1) (dC (.int 1))) (dCons (dC (.int 4)) dNil)))))
    (dSeq (dIf (dtLend 3 (dtOr (dtVal (d2 oEq (dVar 6) (dC (.int 0)))) (dtOr (dtNot (dtVal (dBi fIsi (dCons (dIxV 3 (dVar 5)) (dCons (dC (.ty "list")) dNil))))) (dtVal (d2 (fS gEmp) (dIxV 3 (dVar 5)) (dFr (dLst dNil))))))) (dSeq (dPutIx 3 5 (dFr (dCall F_L_no_row [] (dCons (dVar 0) (dCons (d2 fAdd (dVar 1) (dC (.int 2))) (dCons (dFr (dLst (dCons (dC (.int 1)) (dCons (dC .non) dNil)))) dNil))))))
    (dRet (dMove 3))) dPass)
    (dSeq (dSet 7 (dLend 3 (dCall F_L_draw [] (dCons (dVar 0) (dCons (d2 fAdd (dVar 1) (dC (.int 3))) (dCons (dBi fLen (dCons (dIxV 3 (dVar 5)) dNil)) dNil))))))
    (dSeq (dIf (dtVal (d2 oEq (dVar 6) (dC (.int 1)))) (dDrop (dInsI 3 5 7 4)) (dIf (dtVal (d2 oEq (dVar 6) (dC (.int 2)))) (dDrop (dPopI 3 5 7)) (dSetIx2 3 (dVar 5) (dVar 7) (dCall F_L_no_cell [] (dCons (dVar 0) (dCons (d2 fAdd (dVar 1) (dC (.int 4))) dNil))))))
    (dRet (dMove 3))))))))
def F_L_spoiled : FnT := mkFn 8 3 den_L_spoiled
def den_L_no_rows : DS := (dSeq (dSet 3 (dLst (dCons (dC .non) (dCons (dTup dNil) (dCons (dC (.str ("" : PySem.Str))) (dCons (dC (.int 0)) (dCons (dC (.bl true)) (dCons (dBi fTuple (dCons (dVar 2) dNil)) (dCons (dFr (dLst dNil)) (dCons (dFr dDic0) (dCons (dFr (d2 fMul (dFr (dLst (dCons (dIxV 2 (dC (.int 0))) dNil))) (dC (.int 65)))) (dCons (dFr (dDic1 (dC (.int 0)) (dIxV 2 (dC (.int 0))))) dNil))))))))))))
    (dRet (dIxV 3 (dCall F_L_draw [] (dCons (dVar 0) (dCons (dVar 1) (dCons (dC (.int 10)) dNil)))))))
def F_L_no_rows : FnT := mkFn 4 3 den_L_no_rows
def den_L_cell_is : DS := (dSeq (dIf (dtVal (d2 oIs (dVar 0) (dC .non))) (dRet (dC (.bl true))) dPass)
    (dRet (dAnd (dBi fIsi (dCons (dVar 0) (dCons (dC (.ty "int")) dNil))) (dAnd (dNot (dBi fIsi (dCons (dVar 0) (dCons (dC (.ty "bool")) dNil)))) (dChain oLe oLe (dC (.int 0)) (dVar 0) (dC (.int 15)))))))
def F_L_cell_is : FnT := mkFn 1 1 den_L_cell_is
def bd_L_fault_1 : DS := (dSeq (dSet 2 (dIxV 0 (dVar 1)))
    (dSeq (dIf (dtOr (dtNot (dtVal (dBi fIsi (dCons (dVar 2) (dCons (dC (.ty "list")) dNil))))) (dtOr (dtVal (d2 oLt (dLenV 2) (dC (.int 1)))) (dtOr (dtVal (d2 oGt (dLenV 2) (dC (.int 64)))) (dtVal (d2 oNe (dLenV 2) (dBi fLen (dCons (dIxV 0 (dC (.int 0))) dNil))))))) (dRet (dTup (dCons (dC (.str ("fault" : PySem.Str))) (dCons (dVar 1) dNil)))) dPass)
    (dIf (dtNot (dtVal (dBi (fBools fun bs => bs.all id) (dCons (dFr (dLc [3] (dgName 3) (diVal (dVar 2)) dtYes (dFr (dCall F_L_cell_is [] (dCons (dVar 3) dNil))))) dNil)))) (dRet (dTup (dCons (dC (.str ("fault" : PySem.Str))) (dCons (dVar 1) dNil)))) dPass)))
def den_L_fault : DS := (dSeq (dIf (dtOr (dtNot (dtVal (dBi fIsi (dCons (dVar 0) (dCons (dC (.ty "list")) dNil))))) (dtOr (dtVal (d2 oLt (dLenV 0) (dC (.int 1)))) (dtVal (d2 oGt (dLenV 0) (dC (.int 64)))))) (dRet (dTup (dCons (dC (.str ("fault" : PySem.Str))) (dCons (dC .non) dNil)))) dPass)
    (dSeq (dFor (dgName 1) (diRange1 (dCons (dLenV 0) dNil)) bd_L_fault_1)
    (dRet (dC .non))))
def F_L_fault : FnT := mkFn 4 1 den_L_fault
def den_L_apart (a_ dd_ : Nat) (e_ : Ex) : DS := (dSeq (dIf (dtOr (dtVal (dIsE a_ dd_ e_ 0 (isT ksT 3 e_.c))) (dtOr (dtVal (dIsE a_ dd_ e_ 0 (isT ksT 4 e_.c))) (dtOr (dtVal (dIsE a_ dd_ e_ 0 (isT ksT 6 e_.c))) (dtVal (dIsE a_ dd_ e_ 0 (isT ksT 8 e_.c)))))) (dRet (dC (.bl false))) dPass)
    (dSeq (dIf (dtOr (dtVal (dIsE a_ dd_ e_ 0 (isT ksT 12 e_.c))) (dtVal (dIsE a_ dd_ e_ 0 (isT ksT 13 e_.c)))) (dRet (dC (.bl false))) dPass)
    (dRet (dAnd (dIsE a_ dd_ e_ 0 (isT ksT 7 e_.c)) (dIsE a_ dd_ e_ 0 (isT ksT 100 e_.c))))))
def F_L_apart (a_ dd_ : Nat) (e_ : Ex) : FnT := mkFn 1 1 (den_L_apart a_ dd_ e_)
def su_L_asked_1 (a_ dd_ : Nat) (e_ : Ex) : DS := (dSet 1 (dVar 2))
def su_L_asked_2 (a_ dd_ : Nat) (e_ : Ex) : DS := (dSeq (dIf (dtVal (dIsE a_ dd_ e_ 1 (isT ksT 0 e_.c))) (dSeq (dIf (dtNot (dtVal (dCallE a_ dd_ e_ 1 (F_L_apart a_ dd_ e_)))) (dRet (dTup (dCons (dC (.str ("other" : PySem.Str))) (dCons (dC (.int 0)) dNil)))) dPass)
    (dRet (dTup (dCons (dC (.str ("fault" : PySem.Str))) (dCons (dXf a_ dd_ e_ 1 ("row" : PySem.Str) xfOk_row) dNil))))) dPass)
    (dRet (dMove 1)))
noncomputable def den_L_asked : DS := (dSeq (dSet 1 (dC .non))
    (dTryR 2 (isT ksT 0) (dSet 1 (dCall F_pictured [] (dCons (dVar 0) dNil))) (dSeq (dIf (dtVal (dIsN (dVar 1))) (dSeq dsBad
    dsBad) dPass)
    (dRet (dMove 1))) su_L_asked_1 su_L_asked_2))
noncomputable def F_L_asked : FnT := mkFn 3 1 den_L_asked
noncomputable def den_law : DS := (dSeq (dSet 1 (dCall F_L_sides [] (dCons (dVar 0) (dCons (dC (.int 0)) dNil))))
    (dSeq (dSet 2 (dCall F_L_rows [] (dCons (dVar 0) (dCons (dC (.int 3)) (dCons (dIxV 1 (dC (.int 0))) (dCons (dIxV 1 (dC (.int 1))) dNil))))))
    (dSeq (dSet 3 (dCall F_L_spoiled [] (dCons (dVar 0) (dCons (dC (.int 300)) (dCons (dVar 2) dNil)))))
    (dSeq (dIf (dtVal (d2 oEq (dFr (dCall F_L_draw [] (dCons (dVar 0) (dCons (dC (.int 320)) (dCons (dC (.int 2)) dNil))))) (dC (.int 0)))) (dSet 3 (dCall F_L_spoiled [] (dCons (dVar 0) (dCons (dC (.int 330)) (dCons (dVar 3) dNil))))) dPass)
    (dSeq (dIf (dtVal (d2 oEq (dFr (dCall F_L_draw [] (dCons (dVar 0) (dCons (dC (.int 350)) (dCons (dC (.int 5)) dNil))))) (dC (.int 0)))) (dSet 3 (dCall F_L_no_rows [] (dCons (dVar 0) (dCons (dC (.int 351)) (dCons (dVar 2) dNil))))) dPass)
    (dSeq (dSet 4 (dCall F_L_fault [] (dCons (dVar 3) dNil)))
    (dSeq (dIf (dtVal (d2 oIs (dVar 4) (dC .non))) (dSet 4 (dCall F_L_packed [] (dCons (dVar 3) dNil))) dPass)
    (dSeq (dIf (dtNot (dtVal (dCall F_L_alike [] (dCons (dFr (dCall F_L_asked [] (dCons (dVar 3) dNil))) (dCons (dVar 4) dNil))))) (dRet (dC (.bl false))) dPass)
    (dRet (dCall F_L_alike [] (dCons (dFr (dCall F_L_asked [] (dCons (dVar 2) dNil))) (dCons (dFr (dCall F_L_packed [] (dCons (dVar 2) dNil))) dNil))))))))))))
noncomputable def F_law : FnT := mkFn 5 1 den_law
abbrev s_is_whole : Stmt := top 10
theorem sc_is_whole : FnScope [("thing" : PySem.Str)] [("thing" : PySem.Str)] (defScope s_is_whole) := ⟨rfl, rfl, rfl, by decide +kernel, rfl, by decide +kernel, by decide +kernel⟩
abbrev s_is_cell : Stmt := top 14
theorem sc_is_cell : FnScope [("thing" : PySem.Str)] [("thing" : PySem.Str)] (defScope s_is_cell) := ⟨rfl, rfl, rfl, by decide +kernel, rfl, by decide +kernel, by decide +kernel⟩
abbrev s_is_row : Stmt := top 15
theorem sc_is_row : FnScope [("thing" : PySem.Str), ("wide" : PySem.Str), ("one" : PySem.Str)] [("thing" : PySem.Str), ("wide" : PySem.Str)] (defScope s_is_row) := ⟨rfl, rfl, rfl, by decide +kernel, rfl, by decide +kernel, by decide +kernel⟩
abbrev s_row_bits : Stmt := top 16
theorem sc_row_bits : FnScope [("row" : PySem.Str), ("paint" : PySem.Str), ("mask" : PySem.Str), ("x" : PySem.Str)] [("row" : PySem.Str)] (defScope s_row_bits) := ⟨rfl, rfl, rfl, by decide +kernel, rfl, by decide +kernel, by decide +kernel⟩
abbrev s_pictured : Stmt := top 17
theorem sc_pictured : FnScope [("rows" : PySem.Str), ("wide" : PySem.Str), ("at" : PySem.Str), ("bits" : PySem.Str), ("row" : PySem.Str), ("paints" : PySem.Str), ("one" : PySem.Str)] [("rows" : PySem.Str)] (defScope s_pictured) := ⟨rfl, rfl, rfl, by decide +kernel, rfl, by decide +kernel, by decide +kernel⟩
abbrev s_L_draw : Stmt := top 19
theorem sc_L_draw : FnScope [("_law_script" : PySem.Str), ("_law_k" : PySem.Str), ("_law_many" : PySem.Str), ("_law_number" : PySem.Str)] [("_law_script" : PySem.Str), ("_law_k" : PySem.Str), ("_law_many" : PySem.Str)] (defScope s_L_draw) := ⟨rfl, rfl, rfl, by decide +kernel, rfl, by decide +kernel, by decide +kernel⟩
abbrev s_L_great : Stmt := top 20
theorem sc_L_great : FnScope [("_law_script" : PySem.Str), ("_law_k" : PySem.Str), ("_law_many" : PySem.Str), ("_law_number" : PySem.Str)] [("_law_script" : PySem.Str), ("_law_k" : PySem.Str), ("_law_many" : PySem.Str)] (defScope s_L_great) := ⟨rfl, rfl, rfl, by decide +kernel, rfl, by decide +kernel, by decide +kernel⟩
abbrev s_L_alike : Stmt := top 21
theorem sc_L_alike : FnScope [("_law_found" : PySem.Str), ("_law_due" : PySem.Str), ("_law_k" : PySem.Str)] [("_law_found" : PySem.Str), ("_law_due" : PySem.Str)] (defScope s_L_alike) := ⟨rfl, rfl, rfl, by decide +kernel, rfl, by decide +kernel, by decide +kernel⟩
abbrev s_L_sides : Stmt := top 22
theorem sc_L_sides : FnScope [("_law_script" : PySem.Str), ("_law_k" : PySem.Str), ("_law_wide" : PySem.Str), ("_law_high" : PySem.Str), ("_law_way" : PySem.Str)] [("_law_script" : PySem.Str), ("_law_k" : PySem.Str)] (defScope s_L_sides) := ⟨rfl, rfl, rfl, by decide +kernel, rfl, by decide +kernel, by decide +kernel⟩
abbrev s_L_rows : Stmt := top 23
theorem sc_L_rows : FnScope [("_law_script" : PySem.Str), ("_law_k" : PySem.Str), ("_law_wide" : PySem.Str), ("_law_high" : PySem.Str), ("_law_most" : PySem.Str), ("_law_rows_here" : PySem.Str), ("_law_y" : PySem.Str), ("_law_row" : PySem.Str), ("_law_x" : PySem.Str), ("_law_cell" : PySem.Str)] [("_law_script" : PySem.Str), ("_law_k" : PySem.Str), ("_law_wide" : PySem.Str), ("_law_high" : PySem.Str)] (defScope s_L_rows) := ⟨rfl, rfl, rfl, by decide +kernel, rfl, by decide +kernel, by decide +kernel⟩
abbrev s_L_packed : Stmt := top 24
theorem sc_L_packed : FnScope [("_law_rows_here" : PySem.Str), ("_law_paints" : PySem.Str), ("_law_masks" : PySem.Str), ("_law_row" : PySem.Str), ("_law_paint" : PySem.Str), ("_law_mask" : PySem.Str), ("_law_cell" : PySem.Str)] [("_law_rows_here" : PySem.Str)] (defScope s_L_packed) := ⟨rfl, rfl, rfl, by decide +kernel, rfl, by decide +kernel, by decide +kernel⟩
abbrev s_L_no_cell : Stmt := top 25
theorem sc_L_no_cell : FnScope [("_law_script" : PySem.Str), ("_law_k" : PySem.Str), ("_law_far" : PySem.Str), ("_law_some" : PySem.Str)] [("_law_script" : PySem.Str), ("_law_k" : PySem.Str)] (defScope s_L_no_cell) := ⟨rfl, rfl, rfl, by decide +kernel, rfl, by decide +kernel, by decide +kernel⟩
abbrev s_L_no_row : Stmt := top 26
theorem sc_L_no_row : FnScope [("_law_script" : PySem.Str), ("_law_k" : PySem.Str), ("_law_row" : PySem.Str), ("_law_some" : PySem.Str)] [("_law_script" : PySem.Str), ("_law_k" : PySem.Str), ("_law_row" : PySem.Str)] (defScope s_L_no_row) := ⟨rfl, rfl, rfl, by decide +kernel, rfl, by decide +kernel, by decide +kernel⟩
abbrev s_L_spoiled : Stmt := top 27
theorem sc_L_spoiled : FnScope [("_law_script" : PySem.Str), ("_law_k" : PySem.Str), ("_law_rows_here" : PySem.Str), ("_law_made" : PySem.Str), ("_law_row" : PySem.Str), ("_law_at" : PySem.Str), ("_law_way" : PySem.Str), ("_law_place" : PySem.Str)] [("_law_script" : PySem.Str), ("_law_k" : PySem.Str), ("_law_rows_here" : PySem.Str)] (defScope s_L_spoiled) := ⟨rfl, rfl, rfl, by decide +kernel, rfl, by decide +kernel, by decide +kernel⟩
abbrev s_L_no_rows : Stmt := top 28
theorem sc_L_no_rows : FnScope [("_law_script" : PySem.Str), ("_law_k" : PySem.Str), ("_law_rows_here" : PySem.Str), ("_law_some" : PySem.Str)] [("_law_script" : PySem.Str), ("_law_k" : PySem.Str), ("_law_rows_here" : PySem.Str)] (defScope s_L_no_rows) := ⟨rfl, rfl, rfl, by decide +kernel, rfl, by decide +kernel, by decide +kernel⟩
abbrev s_L_cell_is : Stmt := top 29
theorem sc_L_cell_is : FnScope [("_law_cell" : PySem.Str)] [("_law_cell" : PySem.Str)] (defScope s_L_cell_is) := ⟨rfl, rfl, rfl, by decide +kernel, rfl, by decide +kernel, by decide +kernel⟩
abbrev s_L_fault : Stmt := top 30
theorem sc_L_fault : FnScope [("_law_rows_here" : PySem.Str), ("_law_at" : PySem.Str), ("_law_row" : PySem.Str), ("_law_cell" : PySem.Str)] [("_law_rows_here" : PySem.Str)] (defScope s_L_fault) := ⟨rfl, rfl, rfl, by decide +kernel, rfl, by decide +kernel, by decide +kernel⟩
abbrev s_L_apart : Stmt := top 31
theorem sc_L_apart : FnScope [("_law_e" : PySem.Str)] [("_law_e" : PySem.Str)] (defScope s_L_apart) := ⟨rfl, rfl, rfl, by decide +kernel, rfl, by decide +kernel, by decide +kernel⟩
abbrev s_L_asked : Stmt := top 32
theorem sc_L_asked : FnScope [("_law_rows_here" : PySem.Str), ("_law_found" : PySem.Str), ("_law_e" : PySem.Str)] [("_law_rows_here" : PySem.Str)] (defScope s_L_asked) := ⟨rfl, rfl, rfl, by decide +kernel, rfl, by decide +kernel, by decide +kernel⟩
abbrev s_law : Stmt := top 33
theorem sc_law : FnScope [("_law_script" : PySem.Str), ("_law_sides_here" : PySem.Str), ("_law_rows_here" : PySem.Str), ("_law_spoiled_here" : PySem.Str), ("_law_due" : PySem.Str)] [("_law_script" : PySem.Str)] (defScope s_law) := ⟨rfl, rfl, rfl, by decide +kernel, rfl, by decide +kernel, by decide +kernel⟩
abbrev s_ini_NoPicture : Stmt := inClass (top 2) 0
theorem sc_ini_NoPicture : FnScope [("self" : PySem.Str), ("row" : PySem.Str)] [("self" : PySem.Str), ("row" : PySem.Str)] (defScope s_ini_NoPicture) := ⟨rfl, rfl, rfl, by decide +kernel, rfl, by decide +kernel, by decide +kernel⟩
theorem ini_NoPicture {P : Program} {wd : World} {K : PySem.W.Frag} {mg : Str → Option Value} {base : Heap} {G C fI : Addr} {oc kV dc pm cd ct : Value} {od an : Option Addr} {sl : Array (Option Value)} (BG : BasC K mg G "GlowError")
    (lk : K.lookup fI = some ⟨oc, od, .func (PySem.W.fnOf "__init__" "NoPicture.__init__" (defArgs s_ini_NoPicture) (defBody s_ini_NoPicture) (defScope s_ini_NoPicture) .none kV dc pm an cd ct), sl⟩) (hcd : PySem.W.codeIn K cd "NoPicture.__init__" = true) :
    FnOk P wd K mg base CXn 1 fI (PySem.W.fnOf "__init__" "NoPicture.__init__" (defArgs s_ini_NoPicture) (defBody s_ini_NoPicture) (defScope s_ini_NoPicture) .none kV dc pm an cd ct) [("self" : PySem.Str), ("row" : PySem.Str)] (spIni K C [("row" : PySem.Str)]) :=
  fn_of lk hcd sc_ini_NoPicture (spIni_len rfl) fun A outer s H vs Q E hr h => by
    refine ⟨_, pss_cons (ps_expr (pe_oinit BG (pa_cons (pv 0) (pa_cons pe_str pa_nil)))) (pss_one (ps_ost (pv 0) (pv 1))), ?_⟩
    refine ini1 (m := ("no picture" : PySem.Str)) rfl h ?_ ?_ ?_ ?_
    · exact fun _ _ h => h
    · exact (fun a0 a1 H Q q => ⟨_, rfl, q⟩)
    · exact (fun a0 a1 H Q q => ⟨_, rfl, q⟩)
    · exact (fun a0 a1 H Q q => ⟨_, rfl, q⟩)
section
variable {P : Program} {wd : World} {K : PySem.W.Frag} {mg : Str → Option Value} {base : Heap} {ca : Cad}
theorem snd_is_whole (B : Bi mg) (BX : Bx P wd K mg ca)   {cdv : Value} {A : Around} {outer : List Env} {s : Shared} {H : Hp} {E : XK} {f : Addr} (hr : RoomG 0 (A.deeper (envOfC "is_whole" (defScope s_is_whole) s.heap.objs.size f cdv))) :
    SB (cxOf (L2.CX P wd) P wd K mg base [("thing" : PySem.Str)] "is_whole" (defScope s_is_whole) f cdv A outer s H E) ca (fun cls d _ H => E cls d H) [] (defBody s_is_whole) (den_is_whole) := by
  have tk : Takes (cxOf (L2.CX P wd) P wd K mg base [("thing" : PySem.Str)] "is_whole" (defScope s_is_whole) f cdv A outer s H E) (fun cls d _ H => E cls d H) := takes_of rfl rfl rfl rfl
  have hpo : PassesOwn (model P wd) (cxOf (L2.CX P wd) P wd K mg base [("thing" : PySem.Str)] "is_whole" (defScope s_is_whole) f cdv A outer s H E).A (cxOf (L2.CX P wd) P wd K mg base [("thing" : PySem.Str)] "is_whole" (defScope s_is_whole) f cdv A outer s H E).env (cxOf (L2.CX P wd) P wd K mg base [("thing" : PySem.Str)] "is_whole" (defScope s_is_whole) f cdv A outer s H E).xe := passes_of rfl
  exact (sb_one (ss_ret (se_and (se_bi cs_isi B.isinstance PyProof.Rows.boot_isinstance (sa_cons (se_var 0) (sa_cons (se_bty B.int_ PyProof.Rows.boot_int) sa_nil))) (se_one (se_not (se_bi cs_isi B.isinstance PyProof.Rows.boot_isinstance (sa_cons (se_var 0) (sa_cons (se_bty B.bool_ PyProof.Rows.boot_bool) sa_nil))))))))
theorem snd_is_cell (B : Bi mg) (BX : Bx P wd K mg ca) (c_is_whole : Cal P wd K mg base ca 1 "is_whole" [] F_is_whole)  {cdv : Value} {A : Around} {outer : List Env} {s : Shared} {H : Hp} {E : XK} {f : Addr} (hr : RoomG 1 (A.deeper (envOfC "is_cell" (defScope s_is_cell) s.heap.objs.size f cdv))) :
    SB (cxOf (L2.CX P wd) P wd K mg base [("thing" : PySem.Str)] "is_cell" (defScope s_is_cell) f cdv A outer s H E) ca (fun cls d _ H => E cls d H) [] (defBody s_is_cell) (den_is_cell) := by
  obtain ⟨t_COLOURS, h_COLOURS⟩ := B.g_COLOURS
  have tk : Takes (cxOf (L2.CX P wd) P wd K mg base [("thing" : PySem.Str)] "is_cell" (defScope s_is_cell) f cdv A outer s H E) (fun cls d _ H => E cls d H) := takes_of rfl rfl rfl rfl
  have hpo : PassesOwn (model P wd) (cxOf (L2.CX P wd) P wd K mg base [("thing" : PySem.Str)] "is_cell" (defScope s_is_cell) f cdv A outer s H E).A (cxOf (L2.CX P wd) P wd K mg base [("thing" : PySem.Str)] "is_cell" (defScope s_is_cell) f cdv A outer s H E).env (cxOf (L2.CX P wd) P wd K mg base [("thing" : PySem.Str)] "is_cell" (defScope s_is_cell) f cdv A outer s H E).xe := passes_of rfl
  exact (sb_one (ss_ret (se_or (se_cmp ops_is (se_var 0) se_non) (se_one (se_and (se_call c_is_whole (hr.mono (by decide)) tk (sa_cons (se_var 0) sa_nil)) (se_one (se_chain ops_le ops_lt se_int (se_var 0) (se_gint h_COLOURS))))))))
theorem snd_is_row (B : Bi mg) (BX : Bx P wd K mg ca) (c_is_cell : Cal P wd K mg base ca 2 "is_cell" [] F_is_cell)  {cdv : Value} {A : Around} {outer : List Env} {s : Shared} {H : Hp} {E : XK} {f : Addr} (hr : RoomG 2 (A.deeper (envOfC "is_row" (defScope s_is_row) s.heap.objs.size f cdv))) :
    SB (cxOf (L2.CX P wd) P wd K mg base [("thing" : PySem.Str), ("wide" : PySem.Str), ("one" : PySem.Str)] "is_row" (defScope s_is_row) f cdv A outer s H E) ca (fun cls d _ H => E cls d H) [] (defBody s_is_row) (den_is_row) := by
  have tk : Takes (cxOf (L2.CX P wd) P wd K mg base [("thing" : PySem.Str), ("wide" : PySem.Str), ("one" : PySem.Str)] "is_row" (defScope s_is_row) f cdv A outer s H E) (fun cls d _ H => E cls d H) := takes_of rfl rfl rfl rfl
  have hpo : PassesOwn (model P wd) (cxOf (L2.CX P wd) P wd K mg base [("thing" : PySem.Str), ("wide" : PySem.Str), ("one" : PySem.Str)] "is_row" (defScope s_is_row) f cdv A outer s H E).A (cxOf (L2.CX P wd) P wd K mg base [("thing" : PySem.Str), ("wide" : PySem.Str), ("one" : PySem.Str)] "is_row" (defScope s_is_row) f cdv A outer s H E).env (cxOf (L2.CX P wd) P wd K mg base [("thing" : PySem.Str), ("wide" : PySem.Str), ("one" : PySem.Str)] "is_row" (defScope s_is_row) f cdv A outer s H E).xe := passes_of rfl
  exact (sb_cons (ss_if (SW.st (sw_or (st_not (st_val (se_bi cs_isi B.isinstance PyProof.Rows.boot_isinstance (sa_cons (se_var 0) (sa_cons (se_bty B.list_ PyProof.Rows.boot_list) sa_nil))))) (sw_or1 (st_cmp (ops_ne hr.units) (se_lenV 0 B.len) (se_var 1))))) (sb_one (ss_ret se_bl)) sb_nil)
    (sb_one (ss_ret (se_bi (cs_all rfl) B.all_ PyProof.Rows.boot_all (sa_cons (se_fr (se_lc rfl (si_val (se_var 0)) (Blk.mk (own := [(("one" : PySem.Str), 2)]) (ch := [2]) (blkOk_by (N := [("thing" : PySem.Str), ("wide" : PySem.Str), ("one" : PySem.Str)]) (sc := defScope s_is_row) (by decide +kernel)) sc_is_row.nd (fun _ _ _ _ _ => (sg_name (i := 2) sc_is_row.nd rfl (Or.inl rfl))) (fun _ _ _ _ _ => sts_nil) (fun _ _ _ _ _ => (se_fr (se_call c_is_cell (hr.mono (by decide)) takes_WF (sa_cons (se_var 2) sa_nil)))) (by decide)))) sa_nil)))))
theorem snd_row_bits (B : Bi mg) (BX : Bx P wd K mg ca)   {cdv : Value} {A : Around} {outer : List Env} {s : Shared} {H : Hp} {E : XK} {f : Addr} (hr : RoomG 0 (A.deeper (envOfC "row_bits" (defScope s_row_bits) s.heap.objs.size f cdv))) :
    SB (cxOf (L2.CX P wd) P wd K mg base [("row" : PySem.Str), ("paint" : PySem.Str), ("mask" : PySem.Str), ("x" : PySem.Str)] "row_bits" (defScope s_row_bits) f cdv A outer s H E) ca (fun cls d _ H => E cls d H) [] (defBody s_row_bits) (den_row_bits) := by
  have tk : Takes (cxOf (L2.CX P wd) P wd K mg base [("row" : PySem.Str), ("paint" : PySem.Str), ("mask" : PySem.Str), ("x" : PySem.Str)] "row_bits" (defScope s_row_bits) f cdv A outer s H E) (fun cls d _ H => E cls d H) := takes_of rfl rfl rfl rfl
  have hpo : PassesOwn (model P wd) (cxOf (L2.CX P wd) P wd K mg base [("row" : PySem.Str), ("paint" : PySem.Str), ("mask" : PySem.Str), ("x" : PySem.Str)] "row_bits" (defScope s_row_bits) f cdv A outer s H E).A (cxOf (L2.CX P wd) P wd K mg base [("row" : PySem.Str), ("paint" : PySem.Str), ("mask" : PySem.Str), ("x" : PySem.Str)] "row_bits" (defScope s_row_bits) f cdv A outer s H E).env (cxOf (L2.CX P wd) P wd K mg base [("row" : PySem.Str), ("paint" : PySem.Str), ("mask" : PySem.Str), ("x" : PySem.Str)] "row_bits" (defScope s_row_bits) f cdv A outer s H E).xe := passes_of rfl
  exact (sb_cons (ss_set (i := 1) sc_row_bits.nd rfl (Or.inl rfl) se_int)
    (sb_cons (ss_set (i := 2) sc_row_bits.nd rfl (Or.inl rfl) se_int)
    (sb_cons (ss_for (ch := [3]) hpo rfl (si_range1 B.range (sa_cons (se_lenV 0 B.len) sa_nil)) (sg_name (i := 3) sc_row_bits.nd rfl (Or.inl rfl)) (sb_one (ss_if (st_cmp ops_isnot (se_ixV 0 (se_var 3)) se_non) (sb_cons (ss_set (i := 1) sc_row_bits.nd rfl (Or.inl rfl) (se_bin ops_or (se_var 1) (se_bin ops_shl (se_ixV 0 (se_var 3)) (se_fr (se_bin ops_mul se_int (se_var 3))))))
    (sb_one (ss_set (i := 2) sc_row_bits.nd rfl (Or.inl rfl) (se_bin ops_or (se_var 2) (se_bin ops_shl se_int (se_var 3)))))) sb_nil)))
    (sb_one (ss_ret (se_tup (sa_cons (se_var 1) (sa_cons (se_var 2) sa_nil))))))))
theorem snd_pictured (B : Bi mg) (BX : Bx P wd K mg ca) (c_is_row : Cal P wd K mg base ca 3 "is_row" [] F_is_row) (c_row_bits : Cal P wd K mg base ca 1 "row_bits" [] F_row_bits)  {cdv : Value} {A : Around} {outer : List Env} {s : Shared} {H : Hp} {E : XK} {f : Addr} (hr : RoomG 3 (A.deeper (envOfC "pictured" (defScope s_pictured) s.heap.objs.size f cdv))) :
    SB (cxOf (L2.CX P wd) P wd K mg base [("rows" : PySem.Str), ("wide" : PySem.Str), ("at" : PySem.Str), ("bits" : PySem.Str), ("row" : PySem.Str), ("paints" : PySem.Str), ("one" : PySem.Str)] "pictured" (defScope s_pictured) f cdv A outer s H E) ca (fun cls d _ H => E cls d H) [] (defBody s_pictured) (den_pictured) := by
  obtain ⟨t_MOST, h_MOST⟩ := B.g_MOST
  have tk : Takes (cxOf (L2.CX P wd) P wd K mg base [("rows" : PySem.Str), ("wide" : PySem.Str), ("at" : PySem.Str), ("bits" : PySem.Str), ("row" : PySem.Str), ("paints" : PySem.Str), ("one" : PySem.Str)] "pictured" (defScope s_pictured) f cdv A outer s H E) (fun cls d _ H => E cls d H) := takes_of rfl rfl rfl rfl
  have hpo : PassesOwn (model P wd) (cxOf (L2.CX P wd) P wd K mg base [("rows" : PySem.Str), ("wide" : PySem.Str), ("at" : PySem.Str), ("bits" : PySem.Str), ("row" : PySem.Str), ("paints" : PySem.Str), ("one" : PySem.Str)] "pictured" (defScope s_pictured) f cdv A outer s H E).A (cxOf (L2.CX P wd) P wd K mg base [("rows" : PySem.Str), ("wide" : PySem.Str), ("at" : PySem.Str), ("bits" : PySem.Str), ("row" : PySem.Str), ("paints" : PySem.Str), ("one" : PySem.Str)] "pictured" (defScope s_pictured) f cdv A outer s H E).env (cxOf (L2.CX P wd) P wd K mg base [("rows" : PySem.Str), ("wide" : PySem.Str), ("at" : PySem.Str), ("bits" : PySem.Str), ("row" : PySem.Str), ("paints" : PySem.Str), ("one" : PySem.Str)] "pictured" (defScope s_pictured) f cdv A outer s H E).xe := passes_of rfl
  exact (sb_cons (ss_if (SW.st (sw_or (st_not (st_val (se_bi cs_isi B.isinstance PyProof.Rows.boot_isinstance (sa_cons (se_var 0) (sa_cons (se_bty B.list_ PyProof.Rows.boot_list) sa_nil))))) (sw_or1 (st_not (st_chain ops_le ops_le se_int (se_lenV 0 B.len) (se_gint h_MOST)))))) (sb_one (ss_raiseF (k := 7) BX.i_NoPicture tk hr (sa_cons se_non sa_nil))) sb_nil)
    (sb_cons (ss_if (SW.st (sw_or (st_not (st_val (se_bi cs_isi B.isinstance PyProof.Rows.boot_isinstance (sa_cons (se_ixV 0 se_int) (sa_cons (se_bty B.list_ PyProof.Rows.boot_list) sa_nil))))) (sw_or1 (st_not (st_chain ops_le ops_le se_int (se_bi cs_len B.len PySem.boot_len (sa_cons (se_ixV 0 se_int) sa_nil)) (se_gint h_MOST)))))) (sb_one (ss_raiseF (k := 7) BX.i_NoPicture tk hr (sa_cons se_int sa_nil))) sb_nil)
    (sb_cons (ss_set (i := 1) sc_pictured.nd rfl (Or.inl rfl) (se_bi cs_len B.len PySem.boot_len (sa_cons (se_ixV 0 se_int) sa_nil)))
    (sb_cons (ss_for (ch := [2]) hpo rfl (si_range1 B.range (sa_cons (se_lenV 0 B.len) sa_nil)) (sg_name (i := 2) sc_pictured.nd rfl (Or.inl rfl)) (sb_one (ss_if (st_not (st_val (se_call c_is_row (hr.mono (by decide)) tk (sa_cons (se_ixV 0 (se_var 2)) (sa_cons (se_var 1) sa_nil))))) (sb_one (ss_raiseF (k := 7) BX.i_NoPicture tk hr (sa_cons (se_var 2) sa_nil))) sb_nil)))
    (sb_cons (ss_setLc (i := 3) rfl (si_val (se_var 0)) (Blk.mk (own := [(("row" : PySem.Str), 4)]) (ch := [4]) (blkOk_by (N := [("rows" : PySem.Str), ("wide" : PySem.Str), ("at" : PySem.Str), ("bits" : PySem.Str), ("row" : PySem.Str), ("paints" : PySem.Str), ("one" : PySem.Str)]) (sc := defScope s_pictured) (by decide +kernel)) sc_pictured.nd (fun _ _ _ _ _ => (sg_name (i := 4) sc_pictured.nd rfl (Or.inl rfl))) (fun _ _ _ _ _ => sts_nil) (fun _ _ _ _ _ => (se_fr (se_call c_row_bits (hr.mono (by decide)) takes_WF (sa_cons (se_var 4) sa_nil)))) (by decide)))
    (sb_cons (ss_set (i := 5) sc_pictured.nd rfl (Or.inl rfl) (se_bt cs_tuple B.tuple_ PyProof.Rows.boot_tuple (sa_cons (se_fr (se_lc rfl (si_val (se_var 3)) (Blk.mk (own := [(("one" : PySem.Str), 6)]) (ch := [6]) (blkOk_by (N := [("rows" : PySem.Str), ("wide" : PySem.Str), ("at" : PySem.Str), ("bits" : PySem.Str), ("row" : PySem.Str), ("paints" : PySem.Str), ("one" : PySem.Str)]) (sc := defScope s_pictured) (by decide +kernel)) sc_pictured.nd (fun _ _ _ _ _ => (sg_name (i := 6) sc_pictured.nd rfl (Or.inl rfl))) (fun _ _ _ _ _ => sts_nil) (fun _ _ _ _ _ => (se_ixV 6 se_int)) (by decide)))) sa_nil)))
    (sb_one (ss_ret (se_tup (sa_cons (se_var 1) (sa_cons (se_lenV 0 B.len) (sa_cons (se_var 5) (sa_cons (se_bt cs_tuple B.tuple_ PyProof.Rows.boot_tuple (sa_cons (se_fr (se_lc rfl (si_val (se_var 3)) (Blk.mk (own := [(("one" : PySem.Str), 6)]) (ch := [6]) (blkOk_by (N := [("rows" : PySem.Str), ("wide" : PySem.Str), ("at" : PySem.Str), ("bits" : PySem.Str), ("row" : PySem.Str), ("paints" : PySem.Str), ("one" : PySem.Str)]) (sc := defScope s_pictured) (by decide +kernel)) sc_pictured.nd (fun _ _ _ _ _ => (sg_name (i := 6) sc_pictured.nd rfl (Or.inl rfl))) (fun _ _ _ _ _ => sts_nil) (fun _ _ _ _ _ => (se_ixV 6 se_int)) (by decide)))) sa_nil)) sa_nil)))))))))))))
theorem snd_L_draw (B : Bi mg) (BX : Bx P wd K mg ca)   {cdv : Value} {A : Around} {outer : List Env} {s : Shared} {H : Hp} {E : XK} {f : Addr} (hr : RoomG 0 (A.deeper (envOfC "_law_draw" (defScope s_L_draw) s.heap.objs.size f cdv))) :
    SB (cxOf (L2.CX P wd) P wd K mg base [("_law_script" : PySem.Str), ("_law_k" : PySem.Str), ("_law_many" : PySem.Str), ("_law_number" : PySem.Str)] "_law_draw" (defScope s_L_draw) f cdv A outer s H E) ca (fun cls d _ H => E cls d H) [] (defBody s_L_draw) (den_L_draw) := by
  have tk : Takes (cxOf (L2.CX P wd) P wd K mg base [("_law_script" : PySem.Str), ("_law_k" : PySem.Str), ("_law_many" : PySem.Str), ("_law_number" : PySem.Str)] "_law_draw" (defScope s_L_draw) f cdv A outer s H E) (fun cls d _ H => E cls d H) := takes_of rfl rfl rfl rfl
  have hpo : PassesOwn (model P wd) (cxOf (L2.CX P wd) P wd K mg base [("_law_script" : PySem.Str), ("_law_k" : PySem.Str), ("_law_many" : PySem.Str), ("_law_number" : PySem.Str)] "_law_draw" (defScope s_L_draw) f cdv A outer s H E).A (cxOf (L2.CX P wd) P wd K mg base [("_law_script" : PySem.Str), ("_law_k" : PySem.Str), ("_law_many" : PySem.Str), ("_law_number" : PySem.Str)] "_law_draw" (defScope s_L_draw) f cdv A outer s H E).env (cxOf (L2.CX P wd) P wd K mg base [("_law_script" : PySem.Str), ("_law_k" : PySem.Str), ("_law_many" : PySem.Str), ("_law_number" : PySem.Str)] "_law_draw" (defScope s_L_draw) f cdv A outer s H E).xe := passes_of rfl
  exact (sb_cons (ss_set (i := 3) sc_L_draw.nd rfl (Or.inl rfl) se_int)
    (sb_cons (ss_if (st_cmp ops_gt (se_lenV 0 B.len) se_int) (sb_one (ss_set (i := 3) sc_L_draw.nd rfl (Or.inl rfl) (se_bin ops_mod (se_ixV 0 (se_bin ops_mod (se_var 1) (se_lenV 0 B.len))) se_int))) sb_nil)
    (sb_cons (ss_set (i := 3) sc_L_draw.nd rfl (Or.inl rfl) (se_bin ops_add (se_bin ops_mul (se_bin ops_add (se_var 3) se_int) se_int) (se_bin ops_mul (se_bin ops_mul (se_bin ops_add (se_var 1) se_int) (se_bin ops_add (se_var 1) se_int)) se_int)))
    (sb_one (ss_ret (se_bin ops_mod (se_bin ops_mod (se_bin ops_mul (se_bin ops_mod (se_var 3) se_int) se_int) se_int) (se_var 2)))))))
theorem snd_L_great (B : Bi mg) (BX : Bx P wd K mg ca)   {cdv : Value} {A : Around} {outer : List Env} {s : Shared} {H : Hp} {E : XK} {f : Addr} (hr : RoomG 0 (A.deeper (envOfC "_law_great" (defScope s_L_great) s.heap.objs.size f cdv))) :
    SB (cxOf (L2.CX P wd) P wd K mg base [("_law_script" : PySem.Str), ("_law_k" : PySem.Str), ("_law_many" : PySem.Str), ("_law_number" : PySem.Str)] "_law_great" (defScope s_L_great) f cdv A outer s H E) ca (fun cls d _ H => E cls d H) [] (defBody s_L_great) (den_L_great) := by
  have tk : Takes (cxOf (L2.CX P wd) P wd K mg base [("_law_script" : PySem.Str), ("_law_k" : PySem.Str), ("_law_many" : PySem.Str), ("_law_number" : PySem.Str)] "_law_great" (defScope s_L_great) f cdv A outer s H E) (fun cls d _ H => E cls d H) := takes_of rfl rfl rfl rfl
  have hpo : PassesOwn (model P wd) (cxOf (L2.CX P wd) P wd K mg base [("_law_script" : PySem.Str), ("_law_k" : PySem.Str), ("_law_many" : PySem.Str), ("_law_number" : PySem.Str)] "_law_great" (defScope s_L_great) f cdv A outer s H E).A (cxOf (L2.CX P wd) P wd K mg base [("_law_script" : PySem.Str), ("_law_k" : PySem.Str), ("_law_many" : PySem.Str), ("_law_number" : PySem.Str)] "_law_great" (defScope s_L_great) f cdv A outer s H E).env (cxOf (L2.CX P wd) P wd K mg base [("_law_script" : PySem.Str), ("_law_k" : PySem.Str), ("_law_many" : PySem.Str), ("_law_number" : PySem.Str)] "_law_great" (defScope s_L_great) f cdv A outer s H E).xe := passes_of rfl
  exact (sb_cons (ss_set (i := 3) sc_L_great.nd rfl (Or.inl rfl) se_int)
    (sb_cons (ss_if (st_cmp ops_gt (se_lenV 0 B.len) se_int) (sb_one (ss_set (i := 3) sc_L_great.nd rfl (Or.inl rfl) (se_ixV 0 (se_bin ops_mod (se_var 1) (se_lenV 0 B.len))))) sb_nil)
    (sb_one (ss_ret (se_bin ops_mod (se_bin ops_add (se_bin ops_mul (se_bin ops_mod (se_var 3) (se_var 2)) se_int) (se_bin ops_mul (se_bin ops_mul (se_bin ops_add (se_var 1) se_int) (se_bin ops_add (se_var 1) se_int)) se_int)) (se_var 2))))))
theorem snd_L_alike {n : Nat} {F_L_alike : FnT} (B : Bi mg) (BX : Bx P wd K mg ca)  (c_L_alike : Cal P wd K mg base ca (n + 0) "_law_alike" [] F_L_alike) {cdv : Value} {A : Around} {outer : List Env} {s : Shared} {H : Hp} {E : XK} {f : Addr} (hr : RoomG (n + 0) (A.deeper (envOfC "_law_alike" (defScope s_L_alike) s.heap.objs.size f cdv))) :
    SB (cxOf (L2.CX P wd) P wd K mg base [("_law_found" : PySem.Str), ("_law_due" : PySem.Str), ("_law_k" : PySem.Str)] "_law_alike" (defScope s_L_alike) f cdv A outer s H E) ca (fun cls d _ H => E cls d H) [] (defBody s_L_alike) (den_L_alike F_L_alike) := by
  have tk : Takes (cxOf (L2.CX P wd) P wd K mg base [("_law_found" : PySem.Str), ("_law_due" : PySem.Str), ("_law_k" : PySem.Str)] "_law_alike" (defScope s_L_alike) f cdv A outer s H E) (fun cls d _ H => E cls d H) := takes_of rfl rfl rfl rfl
  have hpo : PassesOwn (model P wd) (cxOf (L2.CX P wd) P wd K mg base [("_law_found" : PySem.Str), ("_law_due" : PySem.Str), ("_law_k" : PySem.Str)] "_law_alike" (defScope s_L_alike) f cdv A outer s H E).A (cxOf (L2.CX P wd) P wd K mg base [("_law_found" : PySem.Str), ("_law_due" : PySem.Str), ("_law_k" : PySem.Str)] "_law_alike" (defScope s_L_alike) f cdv A outer s H E).env (cxOf (L2.CX P wd) P wd K mg base [("_law_found" : PySem.Str), ("_law_due" : PySem.Str), ("_law_k" : PySem.Str)] "_law_alike" (defScope s_L_alike) f cdv A outer s H E).xe := passes_of rfl
  exact (sb_cons (ss_if (st_val (se_bi cs_isi B.isinstance PyProof.Rows.boot_isinstance (sa_cons (se_var 1) (sa_cons (se_tup (sa_cons (se_bty B.tuple_ PyProof.Rows.boot_tuple) (sa_cons (se_bty B.list_ PyProof.Rows.boot_list) sa_nil))) sa_nil)))) (sb_cons (ss_if (SW.st (sw_or (st_cmp (ops_ne hr.units) (se_bi cs_isi B.isinstance PyProof.Rows.boot_isinstance (sa_cons (se_var 1) (sa_cons (se_bty B.tuple_ PyProof.Rows.boot_tuple) sa_nil))) (se_bi cs_isi B.isinstance PyProof.Rows.boot_isinstance (sa_cons (se_var 0) (sa_cons (se_bty B.tuple_ PyProof.Rows.boot_tuple) sa_nil)))) (sw_or1 (st_cmp (ops_ne hr.units) (se_bi cs_isi B.isinstance PyProof.Rows.boot_isinstance (sa_cons (se_var 1) (sa_cons (se_bty B.list_ PyProof.Rows.boot_list) sa_nil))) (se_bi cs_isi B.isinstance PyProof.Rows.boot_isinstance (sa_cons (se_var 0) (sa_cons (se_bty B.list_ PyProof.Rows.boot_list) sa_nil))))))) (sb_one (ss_ret se_bl)) sb_nil)
    (sb_cons (ss_if (st_cmp (ops_ne hr.units) (se_lenV 0 B.len) (se_lenV 1 B.len)) (sb_one (ss_ret se_bl)) sb_nil)
    (sb_one (ss_ret (se_bi (cs_all rfl) B.all_ PyProof.Rows.boot_all (sa_cons (se_fr (se_lc rfl (si_range1 B.range (sa_cons (se_lenV 1 B.len) sa_nil)) (Blk.mk (own := [(("_law_k" : PySem.Str), 2)]) (ch := [2]) (blkOk_by (N := [("_law_found" : PySem.Str), ("_law_due" : PySem.Str), ("_law_k" : PySem.Str)]) (sc := defScope s_L_alike) (by decide +kernel)) sc_L_alike.nd (fun _ _ _ _ _ => (sg_name (i := 2) sc_L_alike.nd rfl (Or.inl rfl))) (fun _ _ _ _ _ => sts_nil) (fun _ _ _ _ _ => (se_fr (se_call c_L_alike hr takes_WF (sa_cons (se_ixV 0 (se_var 2)) (sa_cons (se_ixV 1 (se_var 2)) sa_nil))))) (by decide)))) sa_nil)))))) sb_nil)
    (sb_cons (ss_if (SW.st (sw_or (st_cmp ops_is (se_var 1) se_non) (sw_or1 (st_cmp ops_is (se_var 0) se_non)))) (sb_one (ss_ret (se_and (se_cmp ops_is (se_var 1) se_non) (se_one (se_cmp ops_is (se_var 0) se_non))))) sb_nil)
    (sb_cons (ss_if (SW.st (sw_or (st_val (se_bi cs_isi B.isinstance PyProof.Rows.boot_isinstance (sa_cons (se_var 1) (sa_cons (se_bty B.bool_ PyProof.Rows.boot_bool) sa_nil)))) (sw_or1 (st_val (se_bi cs_isi B.isinstance PyProof.Rows.boot_isinstance (sa_cons (se_var 0) (sa_cons (se_bty B.bool_ PyProof.Rows.boot_bool) sa_nil))))))) (sb_one (ss_ret (se_and (se_bi cs_isi B.isinstance PyProof.Rows.boot_isinstance (sa_cons (se_var 1) (sa_cons (se_bty B.bool_ PyProof.Rows.boot_bool) sa_nil))) (se_and (se_bi cs_isi B.isinstance PyProof.Rows.boot_isinstance (sa_cons (se_var 0) (sa_cons (se_bty B.bool_ PyProof.Rows.boot_bool) sa_nil))) (se_one (se_cmp (ops_eq hr.units) (se_var 0) (se_var 1))))))) sb_nil)
    (sb_cons (ss_if (st_val (se_bi cs_isi B.isinstance PyProof.Rows.boot_isinstance (sa_cons (se_var 1) (sa_cons (se_bty B.str_ PyProof.Rows.boot_str) sa_nil)))) (sb_one (ss_ret (se_and (se_bi cs_isi B.isinstance PyProof.Rows.boot_isinstance (sa_cons (se_var 0) (sa_cons (se_bty B.str_ PyProof.Rows.boot_str) sa_nil))) (se_one (se_cmp (ops_eq hr.units) (se_var 0) (se_var 1)))))) sb_nil)
    (sb_one (ss_ret (se_and (se_bi cs_isi B.isinstance PyProof.Rows.boot_isinstance (sa_cons (se_var 0) (sa_cons (se_bty B.int_ PyProof.Rows.boot_int) sa_nil))) (se_one (se_cmp (ops_eq hr.units) (se_var 0) (se_var 1))))))))))
theorem snd_L_sides (B : Bi mg) (BX : Bx P wd K mg ca) (c_L_draw : Cal P wd K mg base ca 1 "_law_draw" [] F_L_draw)  {cdv : Value} {A : Around} {outer : List Env} {s : Shared} {H : Hp} {E : XK} {f : Addr} (hr : RoomG 1 (A.deeper (envOfC "_law_sides" (defScope s_L_sides) s.heap.objs.size f cdv))) :
    SB (cxOf (L2.CX P wd) P wd K mg base [("_law_script" : PySem.Str), ("_law_k" : PySem.Str), ("_law_wide" : PySem.Str), ("_law_high" : PySem.Str), ("_law_way" : PySem.Str)] "_law_sides" (defScope s_L_sides) f cdv A outer s H E) ca (fun cls d _ H => E cls d H) [] (defBody s_L_sides) (den_L_sides) := by
  have tk : Takes (cxOf (L2.CX P wd) P wd K mg base [("_law_script" : PySem.Str), ("_law_k" : PySem.Str), ("_law_wide" : PySem.Str), ("_law_high" : PySem.Str), ("_law_way" : PySem.Str)] "_law_sides" (defScope s_L_sides) f cdv A outer s H E) (fun cls d _ H => E cls d H) := takes_of rfl rfl rfl rfl
  have hpo : PassesOwn (model P wd) (cxOf (L2.CX P wd) P wd K mg base [("_law_script" : PySem.Str), ("_law_k" : PySem.Str), ("_law_wide" : PySem.Str), ("_law_high" : PySem.Str), ("_law_way" : PySem.Str)] "_law_sides" (defScope s_L_sides) f cdv A outer s H E).A (cxOf (L2.CX P wd) P wd K mg base [("_law_script" : PySem.Str), ("_law_k" : PySem.Str), ("_law_wide" : PySem.Str), ("_law_high" : PySem.Str), ("_law_way" : PySem.Str)] "_law_sides" (defScope s_L_sides) f cdv A outer s H E).env (cxOf (L2.CX P wd) P wd K mg base [("_law_script" : PySem.Str), ("_law_k" : PySem.Str), ("_law_wide" : PySem.Str), ("_law_high" : PySem.Str), ("_law_way" : PySem.Str)] "_law_sides" (defScope s_L_sides) f cdv A outer s H E).xe := passes_of rfl
  exact (sb_cons (ss_set (i := 2) sc_L_sides.nd rfl (Or.inl rfl) (se_bin ops_add se_int (se_fr (se_call c_L_draw (hr.mono (by decide)) tk (sa_cons (se_var 0) (sa_cons (se_var 1) (sa_cons se_int sa_nil)))))))
    (sb_cons (ss_set (i := 3) sc_L_sides.nd rfl (Or.inl rfl) (se_bin ops_add se_int (se_fr (se_call c_L_draw (hr.mono (by decide)) tk (sa_cons (se_var 0) (sa_cons (se_bin ops_add (se_var 1) se_int) (sa_cons se_int sa_nil)))))))
    (sb_cons (ss_set (i := 4) sc_L_sides.nd rfl (Or.inl rfl) (se_call c_L_draw (hr.mono (by decide)) tk (sa_cons (se_var 0) (sa_cons (se_bin ops_add (se_var 1) se_int) (sa_cons se_int sa_nil)))))
    (sb_cons (ss_if (st_cmp (ops_eq hr.units) (se_var 4) se_int) (sb_one (ss_ret (se_tup (sa_cons (se_bin ops_sub se_int (se_bin ops_div (se_var 3) se_int)) (sa_cons (se_bin ops_add se_int (se_bin ops_mod (se_var 2) se_int)) sa_nil))))) sb_nil)
    (sb_cons (ss_if (st_cmp (ops_eq hr.units) (se_var 4) se_int) (sb_one (ss_ret (se_tup (sa_cons (se_bin ops_add se_int (se_bin ops_mod (se_var 3) se_int)) (sa_cons (se_bin ops_sub se_int (se_bin ops_div (se_var 2) se_int)) sa_nil))))) sb_nil)
    (sb_one (ss_ret (se_tup (sa_cons (se_var 2) (sa_cons (se_var 3) sa_nil))))))))))
theorem snd_L_rows (B : Bi mg) (BX : Bx P wd K mg ca) (c_L_draw : Cal P wd K mg base ca 1 "_law_draw" [] F_L_draw)  {cdv : Value} {A : Around} {outer : List Env} {s : Shared} {H : Hp} {E : XK} {f : Addr} (hr : RoomG 1 (A.deeper (envOfC "_law_rows" (defScope s_L_rows) s.heap.objs.size f cdv))) :
    SB (cxOf (L2.CX P wd) P wd K mg base [("_law_script" : PySem.Str), ("_law_k" : PySem.Str), ("_law_wide" : PySem.Str), ("_law_high" : PySem.Str), ("_law_most" : PySem.Str), ("_law_rows_here" : PySem.Str), ("_law_y" : PySem.Str), ("_law_row" : PySem.Str), ("_law_x" : PySem.Str), ("_law_cell" : PySem.Str)] "_law_rows" (defScope s_L_rows) f cdv A outer s H E) ca (fun cls d _ H => E cls d H) [] (defBody s_L_rows) (den_L_rows) := by
  have tk : Takes (cxOf (L2.CX P wd) P wd K mg base [("_law_script" : PySem.Str), ("_law_k" : PySem.Str), ("_law_wide" : PySem.Str), ("_law_high" : PySem.Str), ("_law_most" : PySem.Str), ("_law_rows_here" : PySem.Str), ("_law_y" : PySem.Str), ("_law_row" : PySem.Str), ("_law_x" : PySem.Str), ("_law_cell" : PySem.Str)] "_law_rows" (defScope s_L_rows) f cdv A outer s H E) (fun cls d _ H => E cls d H) := takes_of rfl rfl rfl rfl
  have hpo : PassesOwn (model P wd) (cxOf (L2.CX P wd) P wd K mg base [("_law_script" : PySem.Str), ("_law_k" : PySem.Str), ("_law_wide" : PySem.Str), ("_law_high" : PySem.Str), ("_law_most" : PySem.Str), ("_law_rows_here" : PySem.Str), ("_law_y" : PySem.Str), ("_law_row" : PySem.Str), ("_law_x" : PySem.Str), ("_law_cell" : PySem.Str)] "_law_rows" (defScope s_L_rows) f cdv A outer s H E).A (cxOf (L2.CX P wd) P wd K mg base [("_law_script" : PySem.Str), ("_law_k" : PySem.Str), ("_law_wide" : PySem.Str), ("_law_high" : PySem.Str), ("_law_most" : PySem.Str), ("_law_rows_here" : PySem.Str), ("_law_y" : PySem.Str), ("_law_row" : PySem.Str), ("_law_x" : PySem.Str), ("_law_cell" : PySem.Str)] "_law_rows" (defScope s_L_rows) f cdv A outer s H E).env (cxOf (L2.CX P wd) P wd K mg base [("_law_script" : PySem.Str), ("_law_k" : PySem.Str), ("_law_wide" : PySem.Str), ("_law_high" : PySem.Str), ("_law_most" : PySem.Str), ("_law_rows_here" : PySem.Str), ("_law_y" : PySem.Str), ("_law_row" : PySem.Str), ("_law_x" : PySem.Str), ("_law_cell" : PySem.Str)] "_law_rows" (defScope s_L_rows) f cdv A outer s H E).xe := passes_of rfl
  exact (sb_cons (ss_set (i := 4) sc_L_rows.nd rfl (Or.inl rfl) (se_ix (se_fr (se_lst (sa_cons se_int (sa_cons se_int (sa_cons se_int (sa_cons se_int sa_nil)))))) (se_call c_L_draw (hr.mono (by decide)) tk (sa_cons (se_var 0) (sa_cons (se_var 1) (sa_cons se_int sa_nil))))))
    (sb_cons (ss_set (i := 5) sc_L_rows.nd rfl (Or.inl rfl) (se_lst sa_nil))
    (sb_cons (ss_for (ch := [6]) hpo rfl (si_range1 B.range (sa_cons (se_var 3) sa_nil)) (sg_name (i := 6) sc_L_rows.nd rfl (Or.inl rfl)) (sb_cons (ss_set (i := 7) sc_L_rows.nd rfl (Or.inl rfl) (se_lst sa_nil))
    (sb_cons (ss_for (ch := [8]) hpo rfl (si_range1 B.range (sa_cons (se_var 2) sa_nil)) (sg_name (i := 8) sc_L_rows.nd rfl (Or.inl rfl)) (sb_cons (ss_set (i := 9) sc_L_rows.nd rfl (Or.inl rfl) (se_call c_L_draw (hr.mono (by decide)) tk (sa_cons (se_var 0) (sa_cons (se_bin ops_add (se_bin ops_add (se_bin ops_add (se_var 1) se_int) (se_fr (se_bin ops_mul (se_var 6) (se_var 2)))) (se_var 8)) (sa_cons (se_var 4) sa_nil)))))
    (sb_cons (ss_if (st_cmp ops_gt (se_var 9) se_int) (sb_one (ss_set (i := 9) sc_L_rows.nd rfl (Or.inl rfl) se_non)) sb_nil)
    (sb_one (ss_expr (se_append 7 (se_var 9)))))))
    (sb_one (ss_expr (se_append 5 (se_var 7)))))))
    (sb_one (ss_ret (se_move 5))))))
theorem snd_L_packed (B : Bi mg) (BX : Bx P wd K mg ca)   {cdv : Value} {A : Around} {outer : List Env} {s : Shared} {H : Hp} {E : XK} {f : Addr} (hr : RoomG 0 (A.deeper (envOfC "_law_packed" (defScope s_L_packed) s.heap.objs.size f cdv))) :
    SB (cxOf (L2.CX P wd) P wd K mg base [("_law_rows_here" : PySem.Str), ("_law_paints" : PySem.Str), ("_law_masks" : PySem.Str), ("_law_row" : PySem.Str), ("_law_paint" : PySem.Str), ("_law_mask" : PySem.Str), ("_law_cell" : PySem.Str)] "_law_packed" (defScope s_L_packed) f cdv A outer s H E) ca (fun cls d _ H => E cls d H) [] (defBody s_L_packed) (den_L_packed) := by
  have tk : Takes (cxOf (L2.CX P wd) P wd K mg base [("_law_rows_here" : PySem.Str), ("_law_paints" : PySem.Str), ("_law_masks" : PySem.Str), ("_law_row" : PySem.Str), ("_law_paint" : PySem.Str), ("_law_mask" : PySem.Str), ("_law_cell" : PySem.Str)] "_law_packed" (defScope s_L_packed) f cdv A outer s H E) (fun cls d _ H => E cls d H) := takes_of rfl rfl rfl rfl
  have hpo : PassesOwn (model P wd) (cxOf (L2.CX P wd) P wd K mg base [("_law_rows_here" : PySem.Str), ("_law_paints" : PySem.Str), ("_law_masks" : PySem.Str), ("_law_row" : PySem.Str), ("_law_paint" : PySem.Str), ("_law_mask" : PySem.Str), ("_law_cell" : PySem.Str)] "_law_packed" (defScope s_L_packed) f cdv A outer s H E).A (cxOf (L2.CX P wd) P wd K mg base [("_law_rows_here" : PySem.Str), ("_law_paints" : PySem.Str), ("_law_masks" : PySem.Str), ("_law_row" : PySem.Str), ("_law_paint" : PySem.Str), ("_law_mask" : PySem.Str), ("_law_cell" : PySem.Str)] "_law_packed" (defScope s_L_packed) f cdv A outer s H E).env (cxOf (L2.CX P wd) P wd K mg base [("_law_rows_here" : PySem.Str), ("_law_paints" : PySem.Str), ("_law_masks" : PySem.Str), ("_law_row" : PySem.Str), ("_law_paint" : PySem.Str), ("_law_mask" : PySem.Str), ("_law_cell" : PySem.Str)] "_law_packed" (defScope s_L_packed) f cdv A outer s H E).xe := passes_of rfl
  exact (sb_cons (ss_set (i := 1) sc_L_packed.nd rfl (Or.inl rfl) (se_lst sa_nil))
    (sb_cons (ss_set (i := 2) sc_L_packed.nd rfl (Or.inl rfl) (se_lst sa_nil))
    (sb_cons (ss_for (ch := [3]) hpo rfl (si_val (se_var 0)) (sg_name (i := 3) sc_L_packed.nd rfl (Or.inl rfl)) (sb_cons (ss_set (i := 4) sc_L_packed.nd rfl (Or.inl rfl) se_int)
    (sb_cons (ss_set (i := 5) sc_L_packed.nd rfl (Or.inl rfl) se_int)
    (sb_cons (ss_for (ch := [6]) hpo rfl (si_rev B.reversed (se_var 3)) (sg_name (i := 6) sc_L_packed.nd rfl (Or.inl rfl)) (sb_cons (ss_set (i := 4) sc_L_packed.nd rfl (Or.inl rfl) (se_bin ops_mul (se_var 4) se_int))
    (sb_cons (ss_set (i := 5) sc_L_packed.nd rfl (Or.inl rfl) (se_bin ops_mul (se_var 5) se_int))
    (sb_one (ss_if (st_cmp ops_isnot (se_var 6) se_non) (sb_cons (ss_set (i := 4) sc_L_packed.nd rfl (Or.inl rfl) (se_bin ops_add (se_var 4) (se_var 6)))
    (sb_one (ss_set (i := 5) sc_L_packed.nd rfl (Or.inl rfl) (se_bin ops_add (se_var 5) se_int)))) sb_nil)))))
    (sb_cons (ss_expr (se_append 1 (se_var 4)))
    (sb_one (ss_expr (se_append 2 (se_var 5)))))))))
    (sb_one (ss_ret (se_tup (sa_cons (se_bi cs_len B.len PySem.boot_len (sa_cons (se_ixV 0 se_int) sa_nil)) (sa_cons (se_lenV 0 B.len) (sa_cons (se_bt cs_tuple B.tuple_ PyProof.Rows.boot_tuple (sa_cons (se_var 1) sa_nil)) (sa_cons (se_bt cs_tuple B.tuple_ PyProof.Rows.boot_tuple (sa_cons (se_var 2) sa_nil)) sa_nil))))))))))
theorem snd_L_no_cell (B : Bi mg) (BX : Bx P wd K mg ca) (c_L_draw : Cal P wd K mg base ca 1 "_law_draw" [] F_L_draw) (c_L_great : Cal P wd K mg base ca 1 "_law_great" [] F_L_great)  {cdv : Value} {A : Around} {outer : List Env} {s : Shared} {H : Hp} {E : XK} {f : Addr} (hr : RoomG 1 (A.deeper (envOfC "_law_no_cell" (defScope s_L_no_cell) s.heap.objs.size f cdv))) :
    SB (cxOf (L2.CX P wd) P wd K mg base [("_law_script" : PySem.Str), ("_law_k" : PySem.Str), ("_law_far" : PySem.Str), ("_law_some" : PySem.Str)] "_law_no_cell" (defScope s_L_no_cell) f cdv A outer s H E) ca (fun cls d _ H => E cls d H) [] (defBody s_L_no_cell) (den_L_no_cell) := by
  have tk : Takes (cxOf (L2.CX P wd) P wd K mg base [("_law_script" : PySem.Str), ("_law_k" : PySem.Str), ("_law_far" : PySem.Str), ("_law_some" : PySem.Str)] "_law_no_cell" (defScope s_L_no_cell) f cdv A outer s H E) (fun cls d _ H => E cls d H) := takes_of rfl rfl rfl rfl
  have hpo : PassesOwn (model P wd) (cxOf (L2.CX P wd) P wd K mg base [("_law_script" : PySem.Str), ("_law_k" : PySem.Str), ("_law_far" : PySem.Str), ("_law_some" : PySem.Str)] "_law_no_cell" (defScope s_L_no_cell) f cdv A outer s H E).A (cxOf (L2.CX P wd) P wd K mg base [("_law_script" : PySem.Str), ("_law_k" : PySem.Str), ("_law_far" : PySem.Str), ("_law_some" : PySem.Str)] "_law_no_cell" (defScope s_L_no_cell) f cdv A outer s H E).env (cxOf (L2.CX P wd) P wd K mg base [("_law_script" : PySem.Str), ("_law_k" : PySem.Str), ("_law_far" : PySem.Str), ("_law_some" : PySem.Str)] "_law_no_cell" (defScope s_L_no_cell) f cdv A outer s H E).xe := passes_of rfl
  exact (sb_cons (ss_set (i := 2) sc_L_no_cell.nd rfl (Or.inl rfl) (se_call c_L_great (hr.mono (by decide)) tk (sa_cons (se_var 0) (sa_cons (se_var 1) (sa_cons (se_bin ops_sub (se_bin ops_pow se_int se_int) se_int) sa_nil)))))
    (sb_cons (ss_set (i := 3) sc_L_no_cell.nd rfl (Or.inl rfl) (se_lst (sa_cons se_bl (sa_cons se_bl (sa_cons se_int (sa_cons (se_un uns_neg se_int) (sa_cons (se_bin ops_add se_int (se_var 2)) (sa_cons (se_bin ops_sub (se_un uns_neg se_int) (se_var 2)) (sa_cons se_str (sa_cons se_str (sa_cons (se_fr (se_lst (sa_cons se_int sa_nil))) (sa_cons (se_tup (sa_cons se_int sa_nil)) (sa_cons (se_fr (se_dic1 se_int se_int)) (sa_cons (se_fr (se_lst sa_nil)) (sa_cons (se_tup sa_nil) sa_nil)))))))))))))))
    (sb_one (ss_ret (se_ixV 3 (se_call c_L_draw (hr.mono (by decide)) tk (sa_cons (se_var 0) (sa_cons (se_bin ops_add (se_var 1) se_int) (sa_cons se_int sa_nil)))))))))
theorem snd_L_no_row (B : Bi mg) (BX : Bx P wd K mg ca) (c_L_draw : Cal P wd K mg base ca 1 "_law_draw" [] F_L_draw)  {cdv : Value} {A : Around} {outer : List Env} {s : Shared} {H : Hp} {E : XK} {f : Addr} (hr : RoomG 1 (A.deeper (envOfC "_law_no_row" (defScope s_L_no_row) s.heap.objs.size f cdv))) :
    SB (cxOf (L2.CX P wd) P wd K mg base [("_law_script" : PySem.Str), ("_law_k" : PySem.Str), ("_law_row" : PySem.Str), ("_law_some" : PySem.Str)] "_law_no_row" (defScope s_L_no_row) f cdv A outer s H E) ca (fun cls d _ H => E cls d H) [] (defBody s_L_no_row) (den_L_no_row) := by
  have tk : Takes (cxOf (L2.CX P wd) P wd K mg base [("_law_script" : PySem.Str), ("_law_k" : PySem.Str), ("_law_row" : PySem.Str), ("_law_some" : PySem.Str)] "_law_no_row" (defScope s_L_no_row) f cdv A outer s H E) (fun cls d _ H => E cls d H) := takes_of rfl rfl rfl rfl
  have hpo : PassesOwn (model P wd) (cxOf (L2.CX P wd) P wd K mg base [("_law_script" : PySem.Str), ("_law_k" : PySem.Str), ("_law_row" : PySem.Str), ("_law_some" : PySem.Str)] "_law_no_row" (defScope s_L_no_row) f cdv A outer s H E).A (cxOf (L2.CX P wd) P wd K mg base [("_law_script" : PySem.Str), ("_law_k" : PySem.Str), ("_law_row" : PySem.Str), ("_law_some" : PySem.Str)] "_law_no_row" (defScope s_L_no_row) f cdv A outer s H E).env (cxOf (L2.CX P wd) P wd K mg base [("_law_script" : PySem.Str), ("_law_k" : PySem.Str), ("_law_row" : PySem.Str), ("_law_some" : PySem.Str)] "_law_no_row" (defScope s_L_no_row) f cdv A outer s H E).xe := passes_of rfl
  exact (sb_cons (ss_set (i := 3) sc_L_no_row.nd rfl (Or.inl rfl) (se_lst (sa_cons se_non (sa_cons se_int (sa_cons se_bl (sa_cons se_str (sa_cons se_str (sa_cons (se_bt cs_tuple B.tuple_ PyProof.Rows.boot_tuple (sa_cons (se_var 2) sa_nil)) (sa_cons (se_fr (se_dic1 se_int se_int)) (sa_cons (se_fr (se_lst sa_nil)) (sa_cons (se_fr (se_bin ops_mul (se_fr (se_lst (sa_cons se_int sa_nil))) se_int)) (sa_cons (se_fr (se_bin ops_add (se_fr (se_bin ops_mul (se_fr (se_lst (sa_cons se_non sa_nil))) se_int)) (se_fr (se_lst (sa_cons se_int sa_nil))))) sa_nil))))))))))))
    (sb_one (ss_ret (se_ixV 3 (se_call c_L_draw (hr.mono (by decide)) tk (sa_cons (se_var 0) (sa_cons (se_var 1) (sa_cons se_int sa_nil))))))))
theorem snd_L_spoiled (B : Bi mg) (BX : Bx P wd K mg ca) (c_L_draw : Cal P wd K mg base ca 1 "_law_draw" [] F_L_draw) (c_L_no_cell : Cal P wd K mg base ca 2 "_law_no_cell" [] F_L_no_cell) (c_L_no_row : Cal P wd K mg base ca 2 "_law_no_row" [] F_L_no_row)  {cdv : Value} {A : Around} {outer : List Env} {s : Shared} {H : Hp} {E : XK} {f : Addr} (hr : RoomG 2 (A.deeper (envOfC "_law_spoiled" (defScope s_L_spoiled) s.heap.objs.size f cdv))) :
    SB (cxOf (L2.CX P wd) P wd K mg base [("_law_script" : PySem.Str), ("_law_k" : PySem.Str), ("_law_rows_here" : PySem.Str), ("_law_made" : PySem.Str), ("_law_row" : PySem.Str), ("_law_at" : PySem.Str), ("_law_way" : PySem.Str), ("_law_place" : PySem.Str)] "_law_spoiled" (defScope s_L_spoiled) f cdv A outer s H E) ca (fun cls d _ H => E cls d H) [] (defBody s_L_spoiled) (den_L_spoiled) := by
  have tk : Takes (cxOf (L2.CX P wd) P wd K mg base [("_law_script" : PySem.Str), ("_law_k" : PySem.Str), ("_law_rows_here" : PySem.Str), ("_law_made" : PySem.Str), ("_law_row" : PySem.Str), ("_law_at" : PySem.Str), ("_law_way" : PySem.Str), ("_law_place" : PySem.Str)] "_law_spoiled" (defScope s_L_spoiled) f cdv A outer s H E) (fun cls d _ H => E cls d H) := takes_of rfl rfl rfl rfl
  have hpo : PassesOwn (model P wd) (cxOf (L2.CX P wd) P wd K mg base [("_law_script" : PySem.Str), ("_law_k" : PySem.Str), ("_law_rows_here" : PySem.Str), ("_law_made" : PySem.Str), ("_law_row" : PySem.Str), ("_law_at" : PySem.Str), ("_law_way" : PySem.Str), ("_law_place" : PySem.Str)] "_law_spoiled" (defScope s_L_spoiled) f cdv A outer s H E).A (cxOf (L2.CX P wd) P wd K mg base [("_law_script" : PySem.Str), ("_law_k" : PySem.Str), ("_law_rows_here" : PySem.Str), ("_law_made" : PySem.Str), ("_law_row" : PySem.Str), ("_law_at" : PySem.Str), ("_law_way" : PySem.Str), ("_law_place" : PySem.Str)] "_law_spoiled" (defScope s_L_spoiled) f cdv A outer s H E).env (cxOf (L2.CX P wd) P wd K mg base [("_law_script" : PySem.Str), ("_law_k" : PySem.Str), ("_law_rows_here" : PySem.Str), ("_law_made" : PySem.Str), ("_law_row" : PySem.Str), ("_law_at" : PySem.Str), ("_law_way" : PySem.Str), ("_law_place" : PySem.Str)] "_law_spoiled" (defScope s_L_spoiled) f cdv A outer s H E).xe := passes_of rfl
  exact (sb_cons (ss_setLcO (i := 3) rfl (si_val (se_var 2)) (Blk.mk (own := [(("_law_row" : PySem.Str), 4)]) (ch := [4]) (blkOk_by (N := [("_law_script" : PySem.Str), ("_law_k" : PySem.Str), ("_law_rows_here" : PySem.Str), ("_law_made" : PySem.Str), ("_law_row" : PySem.Str), ("_law_at" : PySem.Str), ("_law_way" : PySem.Str), ("_law_place" : PySem.Str)]) (sc := defScope s_L_spoiled) (by decide +kernel)) sc_L_spoiled.nd (fun _ _ _ _ _ => (sg_name (i := 4) sc_L_spoiled.nd rfl (Or.inl rfl))) (fun _ _ _ _ _ => sts_nil) (fun _ _ _ _ _ => (se_if (st_not (st_val (se_bi cs_isi B.isinstance PyProof.Rows.boot_isinstance (sa_cons (se_var 4) (sa_cons (se_bty B.list_ PyProof.Rows.boot_list) sa_nil))))) (se_var 4) (se_bt cs_list B.list_ PyProof.Rows.boot_list (sa_cons (se_var 4) sa_nil)))) (by decide)))
    (sb_cons (ss_set (i := 5) sc_L_spoiled.nd rfl (Or.inl rfl) (se_lend 3 (se_call c_L_draw (hr.mono (by decide)) tk (sa_cons (se_var 0) (sa_cons (se_var 1) (sa_cons (se_lenV 3 B.len) sa_nil))))))
    (sb_cons (ss_set (i := 6) sc_L_spoiled.nd rfl (Or.inl rfl) (se_call c_L_draw (hr.mono (by decide)) tk (sa_cons (se_var 0) (sa_cons (se_bin ops_add (se_var 1) se_int) (sa_cons se_int sa_nil)))))
    (sb_cons (ss_if (st_lend 3 (SW.st (sw_or (st_cmp (ops_eq hr.units) (se_var 6) se_int) (sw_or (st_not (st_val (se_bi cs_isi B.isinstance PyProof.Rows.boot_isinstance (sa_cons (se_ixV 3 (se_var 5)) (sa_cons (se_bty B.list_ PyProof.Rows.boot_list) sa_nil))))) (sw_or1 (st_cmp (ops_eqE hr.units) (se_ixV 3 (se_var 5)) (se_fr (se_lst sa_nil)))))))) (sb_cons (ss_putIx 3 5 (se_fr (se_call c_L_no_row (hr.mono (by decide)) tk (sa_cons (se_var 0) (sa_cons (se_bin ops_add (se_var 1) se_int) (sa_cons (se_fr (se_lst (sa_cons se_int (sa_cons se_non sa_nil)))) sa_nil))))))
    (sb_one (ss_ret (se_move 3)))) sb_nil)
    (sb_cons (ss_set (i := 7) sc_L_spoiled.nd rfl (Or.inl rfl) (se_lend 3 (se_call c_L_draw (hr.mono (by decide)) tk (sa_cons (se_var 0) (sa_cons (se_bin ops_add (se_var 1) se_int) (sa_cons (se_bi cs_len B.len PySem.boot_len (sa_cons (se_ixV 3 (se_var 5)) sa_nil)) sa_nil))))))
    (sb_cons (ss_if (st_cmp (ops_eq hr.units) (se_var 6) se_int) (sb_one (ss_expr (se_insI 3 5 7))) (sb_one (ss_if (st_cmp (ops_eq hr.units) (se_var 6) se_int) (sb_one (ss_expr (se_popI 3 5 7))) (sb_one (ss_setIx2 3 (se_var 5) (se_var 7) (se_call c_L_no_cell (hr.mono (by decide)) tk (sa_cons (se_var 0) (sa_cons (se_bin ops_add (se_var 1) se_int) sa_nil))))))))
    (sb_one (ss_ret (se_move 3)))))))))
theorem snd_L_no_rows (B : Bi mg) (BX : Bx P wd K mg ca) (c_L_draw : Cal P wd K mg base ca 1 "_law_draw" [] F_L_draw)  {cdv : Value} {A : Around} {outer : List Env} {s : Shared} {H : Hp} {E : XK} {f : Addr} (hr : RoomG 1 (A.deeper (envOfC "_law_no_rows" (defScope s_L_no_rows) s.heap.objs.size f cdv))) :
    SB (cxOf (L2.CX P wd) P wd K mg base [("_law_script" : PySem.Str), ("_law_k" : PySem.Str), ("_law_rows_here" : PySem.Str), ("_law_some" : PySem.Str)] "_law_no_rows" (defScope s_L_no_rows) f cdv A outer s H E) ca (fun cls d _ H => E cls d H) [] (defBody s_L_no_rows) (den_L_no_rows) := by
  have tk : Takes (cxOf (L2.CX P wd) P wd K mg base [("_law_script" : PySem.Str), ("_law_k" : PySem.Str), ("_law_rows_here" : PySem.Str), ("_law_some" : PySem.Str)] "_law_no_rows" (defScope s_L_no_rows) f cdv A outer s H E) (fun cls d _ H => E cls d H) := takes_of rfl rfl rfl rfl
  have hpo : PassesOwn (model P wd) (cxOf (L2.CX P wd) P wd K mg base [("_law_script" : PySem.Str), ("_law_k" : PySem.Str), ("_law_rows_here" : PySem.Str), ("_law_some" : PySem.Str)] "_law_no_rows" (defScope s_L_no_rows) f cdv A outer s H E).A (cxOf (L2.CX P wd) P wd K mg base [("_law_script" : PySem.Str), ("_law_k" : PySem.Str), ("_law_rows_here" : PySem.Str), ("_law_some" : PySem.Str)] "_law_no_rows" (defScope s_L_no_rows) f cdv A outer s H E).env (cxOf (L2.CX P wd) P wd K mg base [("_law_script" : PySem.Str), ("_law_k" : PySem.Str), ("_law_rows_here" : PySem.Str), ("_law_some" : PySem.Str)] "_law_no_rows" (defScope s_L_no_rows) f cdv A outer s H E).xe := passes_of rfl
  exact (sb_cons (ss_set (i := 3) sc_L_no_rows.nd rfl (Or.inl rfl) (se_lst (sa_cons se_non (sa_cons (se_tup sa_nil) (sa_cons se_str (sa_cons se_int (sa_cons se_bl (sa_cons (se_bt cs_tuple B.tuple_ PyProof.Rows.boot_tuple (sa_cons (se_var 2) sa_nil)) (sa_cons (se_fr (se_lst sa_nil)) (sa_cons (se_fr se_dic0) (sa_cons (se_fr (se_bin ops_mul (se_fr (se_lst (sa_cons (se_ixV 2 se_int) sa_nil))) se_int)) (sa_cons (se_fr (se_dic1 se_int (se_ixV 2 se_int))) sa_nil))))))))))))
    (sb_one (ss_ret (se_ixV 3 (se_call c_L_draw (hr.mono (by decide)) tk (sa_cons (se_var 0) (sa_cons (se_var 1) (sa_cons se_int sa_nil))))))))
theorem snd_L_cell_is (B : Bi mg) (BX : Bx P wd K mg ca)   {cdv : Value} {A : Around} {outer : List Env} {s : Shared} {H : Hp} {E : XK} {f : Addr} (hr : RoomG 0 (A.deeper (envOfC "_law_cell_is" (defScope s_L_cell_is) s.heap.objs.size f cdv))) :
    SB (cxOf (L2.CX P wd) P wd K mg base [("_law_cell" : PySem.Str)] "_law_cell_is" (defScope s_L_cell_is) f cdv A outer s H E) ca (fun cls d _ H => E cls d H) [] (defBody s_L_cell_is) (den_L_cell_is) := by
  have tk : Takes (cxOf (L2.CX P wd) P wd K mg base [("_law_cell" : PySem.Str)] "_law_cell_is" (defScope s_L_cell_is) f cdv A outer s H E) (fun cls d _ H => E cls d H) := takes_of rfl rfl rfl rfl
  have hpo : PassesOwn (model P wd) (cxOf (L2.CX P wd) P wd K mg base [("_law_cell" : PySem.Str)] "_law_cell_is" (defScope s_L_cell_is) f cdv A outer s H E).A (cxOf (L2.CX P wd) P wd K mg base [("_law_cell" : PySem.Str)] "_law_cell_is" (defScope s_L_cell_is) f cdv A outer s H E).env (cxOf (L2.CX P wd) P wd K mg base [("_law_cell" : PySem.Str)] "_law_cell_is" (defScope s_L_cell_is) f cdv A outer s H E).xe := passes_of rfl
  exact (sb_cons (ss_if (st_cmp ops_is (se_var 0) se_non) (sb_one (ss_ret se_bl)) sb_nil)
    (sb_one (ss_ret (se_and (se_bi cs_isi B.isinstance PyProof.Rows.boot_isinstance (sa_cons (se_var 0) (sa_cons (se_bty B.int_ PyProof.Rows.boot_int) sa_nil))) (se_and (se_not (se_bi cs_isi B.isinstance PyProof.Rows.boot_isinstance (sa_cons (se_var 0) (sa_cons (se_bty B.bool_ PyProof.Rows.boot_bool) sa_nil)))) (se_one (se_chain ops_le ops_le se_int (se_var 0) se_int)))))))
theorem snd_L_fault (B : Bi mg) (BX : Bx P wd K mg ca) (c_L_cell_is : Cal P wd K mg base ca 1 "_law_cell_is" [] F_L_cell_is)  {cdv : Value} {A : Around} {outer : List Env} {s : Shared} {H : Hp} {E : XK} {f : Addr} (hr : RoomG 1 (A.deeper (envOfC "_law_fault" (defScope s_L_fault) s.heap.objs.size f cdv))) :
    SB (cxOf (L2.CX P wd) P wd K mg base [("_law_rows_here" : PySem.Str), ("_law_at" : PySem.Str), ("_law_row" : PySem.Str), ("_law_cell" : PySem.Str)] "_law_fault" (defScope s_L_fault) f cdv A outer s H E) ca (fun cls d _ H => E cls d H) [] (defBody s_L_fault) (den_L_fault) := by
  have tk : Takes (cxOf (L2.CX P wd) P wd K mg base [("_law_rows_here" : PySem.Str), ("_law_at" : PySem.Str), ("_law_row" : PySem.Str), ("_law_cell" : PySem.Str)] "_law_fault" (defScope s_L_fault) f cdv A outer s H E) (fun cls d _ H => E cls d H) := takes_of rfl rfl rfl rfl
  have hpo : PassesOwn (model P wd) (cxOf (L2.CX P wd) P wd K mg base [("_law_rows_here" : PySem.Str), ("_law_at" : PySem.Str), ("_law_row" : PySem.Str), ("_law_cell" : PySem.Str)] "_law_fault" (defScope s_L_fault) f cdv A outer s H E).A (cxOf (L2.CX P wd) P wd K mg base [("_law_rows_here" : PySem.Str), ("_law_at" : PySem.Str), ("_law_row" : PySem.Str), ("_law_cell" : PySem.Str)] "_law_fault" (defScope s_L_fault) f cdv A outer s H E).env (cxOf (L2.CX P wd) P wd K mg base [("_law_rows_here" : PySem.Str), ("_law_at" : PySem.Str), ("_law_row" : PySem.Str), ("_law_cell" : PySem.Str)] "_law_fault" (defScope s_L_fault) f cdv A outer s H E).xe := passes_of rfl
  exact (sb_cons (ss_if (SW.st (sw_or (st_not (st_val (se_bi cs_isi B.isinstance PyProof.Rows.boot_isinstance (sa_cons (se_var 0) (sa_cons (se_bty B.list_ PyProof.Rows.boot_list) sa_nil))))) (sw_or (st_cmp ops_lt (se_lenV 0 B.len) se_int) (sw_or1 (st_cmp ops_gt (se_lenV 0 B.len) se_int))))) (sb_one (ss_ret (se_tup (sa_cons se_str (sa_cons se_non sa_nil))))) sb_nil)
    (sb_cons (ss_for (ch := [1]) hpo rfl (si_range1 B.range (sa_cons (se_lenV 0 B.len) sa_nil)) (sg_name (i := 1) sc_L_fault.nd rfl (Or.inl rfl)) (sb_cons (ss_set (i := 2) sc_L_fault.nd rfl (Or.inl rfl) (se_ixV 0 (se_var 1)))
    (sb_cons (ss_if (SW.st (sw_or (st_not (st_val (se_bi cs_isi B.isinstance PyProof.Rows.boot_isinstance (sa_cons (se_var 2) (sa_cons (se_bty B.list_ PyProof.Rows.boot_list) sa_nil))))) (sw_or (st_cmp ops_lt (se_lenV 2 B.len) se_int) (sw_or (st_cmp ops_gt (se_lenV 2 B.len) se_int) (sw_or1 (st_cmp (ops_ne hr.units) (se_lenV 2 B.len) (se_bi cs_len B.len PySem.boot_len (sa_cons (se_ixV 0 se_int) sa_nil)))))))) (sb_one (ss_ret (se_tup (sa_cons se_str (sa_cons (se_var 1) sa_nil))))) sb_nil)
    (sb_one (ss_if (st_not (st_val (se_bi (cs_all rfl) B.all_ PyProof.Rows.boot_all (sa_cons (se_fr (se_lc rfl (si_val (se_var 2)) (Blk.mk (own := [(("_law_cell" : PySem.Str), 3)]) (ch := [3]) (blkOk_by (N := [("_law_rows_here" : PySem.Str), ("_law_at" : PySem.Str), ("_law_row" : PySem.Str), ("_law_cell" : PySem.Str)]) (sc := defScope s_L_fault) (by decide +kernel)) sc_L_fault.nd (fun _ _ _ _ _ => (sg_name (i := 3) sc_L_fault.nd rfl (Or.inl rfl))) (fun _ _ _ _ _ => sts_nil) (fun _ _ _ _ _ => (se_fr (se_call c_L_cell_is (hr.mono (by decide)) takes_WF (sa_cons (se_var 3) sa_nil)))) (by decide)))) sa_nil)))) (sb_one (ss_ret (se_tup (sa_cons se_str (sa_cons (se_var 1) sa_nil))))) sb_nil)))))
    (sb_one (ss_ret se_non))))
theorem snd_L_apart (B : Bi mg) (BX : Bx P wd K mg ca)  {a_ dd_ : Addr} {e_ : Ex} {oe_ : Obj} {d_ : Option Addr} (hz : L2.Zc (.ref (ca e_.c)) d_ oe_) (hv : ∃ vs, oe_.data = .fields vs) (hd : d_ = (if e_.ns = [] then none else some dd_)) {cdv : Value} {A : Around} {outer : List Env} {s : Shared} {H : Hp} {E : XK} {f : Addr} (hr : RoomS 0 (A.deeper (envOfC "_law_apart" (defScope s_L_apart) s.heap.objs.size f cdv))) :
    SB (Cx.held (cxOf (L2.CX P wd) P wd K mg base [("_law_e" : PySem.Str)] "_law_apart" (defScope s_L_apart) f cdv A outer s H E) [(a_, oe_)]) ca (fun cls d _ H => E cls d H) [] (defBody s_L_apart) (den_L_apart a_ dd_ e_) := by
  exact (sb_cons (ss_if (SW.st (sw_or (st_val (se_isP1 0 (by exact List.mem_cons_self) hz hv hd B.isinstance (ce_own BX.g_NoFont) BX.is_NoFont)) (sw_or (st_val (se_isP1 0 (by exact List.mem_cons_self) hz hv hd B.isinstance (ce_own BX.g_NoLine) BX.is_NoLine)) (sw_or (st_val (se_isP1 0 (by exact List.mem_cons_self) hz hv hd B.isinstance (ce_own BX.g_NoNote) BX.is_NoNote)) (sw_or1 (st_val (se_isP1 0 (by exact List.mem_cons_self) hz hv hd B.isinstance (ce_own BX.g_NoRow) BX.is_NoRow))))))) (sb_one (ss_ret se_bl)) sb_nil)
    (sb_cons (ss_if (SW.st (sw_or (st_val (se_isP1 0 (by exact List.mem_cons_self) hz hv hd B.isinstance (ce_own BX.g_NoTable) BX.is_NoTable)) (sw_or1 (st_val (se_isP1 0 (by exact List.mem_cons_self) hz hv hd B.isinstance (ce_own BX.g_NoText) BX.is_NoText))))) (sb_one (ss_ret se_bl)) sb_nil)
    (sb_one (ss_ret (se_and (se_isP1 0 (by exact List.mem_cons_self) hz hv hd B.isinstance (ce_own BX.g_NoPicture) BX.is_NoPicture) (se_one (se_isP1 0 (by exact List.mem_cons_self) hz hv hd B.isinstance (ce_ty B.ValueError_ boot_VE) BX.is_ValueError)))))))
theorem snd_L_asked (B : Bi mg) (BX : Bx P wd K mg ca) (c_L_apart : CalE P wd K mg base ca 1 "_law_apart" F_L_apart) (c_pictured : Cal P wd K mg base ca 4 "pictured" [] F_pictured)  {cdv : Value} {A : Around} {outer : List Env} {s : Shared} {H : Hp} {E : XK} {f : Addr} (hr : RoomG 4 (A.deeper (envOfC "_law_asked" (defScope s_L_asked) s.heap.objs.size f cdv))) :
    SB (cxOf (L2.CX P wd) P wd K mg base [("_law_rows_here" : PySem.Str), ("_law_found" : PySem.Str), ("_law_e" : PySem.Str)] "_law_asked" (defScope s_L_asked) f cdv A outer s H E) ca (fun cls d _ H => E cls d H) [] (defBody s_L_asked) (den_L_asked) := by
  have tk : Takes (cxOf (L2.CX P wd) P wd K mg base [("_law_rows_here" : PySem.Str), ("_law_found" : PySem.Str), ("_law_e" : PySem.Str)] "_law_asked" (defScope s_L_asked) f cdv A outer s H E) (fun cls d _ H => E cls d H) := takes_of rfl rfl rfl rfl
  have hpo : PassesOwn (model P wd) (cxOf (L2.CX P wd) P wd K mg base [("_law_rows_here" : PySem.Str), ("_law_found" : PySem.Str), ("_law_e" : PySem.Str)] "_law_asked" (defScope s_L_asked) f cdv A outer s H E).A (cxOf (L2.CX P wd) P wd K mg base [("_law_rows_here" : PySem.Str), ("_law_found" : PySem.Str), ("_law_e" : PySem.Str)] "_law_asked" (defScope s_L_asked) f cdv A outer s H E).env (cxOf (L2.CX P wd) P wd K mg base [("_law_rows_here" : PySem.Str), ("_law_found" : PySem.Str), ("_law_e" : PySem.Str)] "_law_asked" (defScope s_L_asked) f cdv A outer s H E).xe := passes_of rfl
  exact (sb_cons (ss_set (i := 1) sc_L_asked.nd rfl (Or.inl rfl) se_non)
    (sb_tryR (i := 2) (c := .ref (ca 0)) (ds := su_L_asked_1) (dp := su_L_asked_2) rfl rfl sc_L_asked.nd rfl rfl ⟨rfl, by decide, .inl BX.g_GlowError⟩ tk BX.catch_GlowError (by decide) (fun W pn_ xe tk hpo => (sb_one (ss_set (i := 1) sc_L_asked.nd rfl (Or.inl rfl) (se_call c_pictured (hr.mono (by decide)) tk (sa_cons (se_var 0) sa_nil))))) (fun a_ dd_ e_ oe_ d_ pn_ hz hv hd => (sb_one (ss_set (i := 1) sc_L_asked.nd rfl (Or.inl rfl) (se_var 2)))) (sb_cons (ss_if (st_val (se_isN (se_var 1) B.isinstance (ce_own BX.g_GlowError) BX.in_GlowError)) (sb_cons ss_bad
    (sb_one ss_bad)) sb_nil)
    (sb_one (ss_ret (se_move 1)))) (fun a_ dd_ e_ oe_ d_ pn_ hz hv hd => (sb_cons (ss_if (st_val (se_isP1 1 (by exact List.mem_cons_self) hz hv hd B.isinstance (ce_own BX.g_GlowError) BX.is_GlowError)) (sb_cons (ss_if (st_not (st_val (se_callE 1 (by exact List.mem_cons_self) hz hv hd c_L_apart (hr.mono (by decide)).s (takes_tr0 rfl tk) rfl rfl))) (sb_one (ss_ret (se_tup (sa_cons se_str (sa_cons se_int sa_nil))))) sb_nil)
    (sb_one (ss_ret (se_tup (sa_cons se_str (sa_cons (se_xfP 1 (by exact List.mem_cons_self) hz hv hd BX.xf_row) sa_nil)))))) sb_nil)
    (sb_one (ss_ret (se_move 1)))))))
theorem snd_law (B : Bi mg) (BX : Bx P wd K mg ca) (c_L_alike : Cal P wd K mg base ca 10 "_law_alike" [] F_L_alike) (c_L_asked : Cal P wd K mg base ca 5 "_law_asked" [] F_L_asked) (c_L_draw : Cal P wd K mg base ca 1 "_law_draw" [] F_L_draw) (c_L_fault : Cal P wd K mg base ca 2 "_law_fault" [] F_L_fault) (c_L_no_rows : Cal P wd K mg base ca 2 "_law_no_rows" [] F_L_no_rows) (c_L_packed : Cal P wd K mg base ca 1 "_law_packed" [] F_L_packed) (c_L_rows : Cal P wd K mg base ca 2 "_law_rows" [] F_L_rows) (c_L_sides : Cal P wd K mg base ca 2 "_law_sides" [] F_L_sides) (c_L_spoiled : Cal P wd K mg base ca 3 "_law_spoiled" [] F_L_spoiled)  {cdv : Value} {A : Around} {outer : List Env} {s : Shared} {H : Hp} {E : XK} {f : Addr} (hr : RoomG 10 (A.deeper (envOfC "law" (defScope s_law) s.heap.objs.size f cdv))) :
    SB (cxOf (L2.CX P wd) P wd K mg base [("_law_script" : PySem.Str), ("_law_sides_here" : PySem.Str), ("_law_rows_here" : PySem.Str), ("_law_spoiled_here" : PySem.Str), ("_law_due" : PySem.Str)] "law" (defScope s_law) f cdv A outer s H E) ca (fun cls d _ H => E cls d H) [] (defBody s_law) (den_law) := by
  have tk : Takes (cxOf (L2.CX P wd) P wd K mg base [("_law_script" : PySem.Str), ("_law_sides_here" : PySem.Str), ("_law_rows_here" : PySem.Str), ("_law_spoiled_here" : PySem.Str), ("_law_due" : PySem.Str)] "law" (defScope s_law) f cdv A outer s H E) (fun cls d _ H => E cls d H) := takes_of rfl rfl rfl rfl
  have hpo : PassesOwn (model P wd) (cxOf (L2.CX P wd) P wd K mg base [("_law_script" : PySem.Str), ("_law_sides_here" : PySem.Str), ("_law_rows_here" : PySem.Str), ("_law_spoiled_here" : PySem.Str), ("_law_due" : PySem.Str)] "law" (defScope s_law) f cdv A outer s H E).A (cxOf (L2.CX P wd) P wd K mg base [("_law_script" : PySem.Str), ("_law_sides_here" : PySem.Str), ("_law_rows_here" : PySem.Str), ("_law_spoiled_here" : PySem.Str), ("_law_due" : PySem.Str)] "law" (defScope s_law) f cdv A outer s H E).env (cxOf (L2.CX P wd) P wd K mg base [("_law_script" : PySem.Str), ("_law_sides_here" : PySem.Str), ("_law_rows_here" : PySem.Str), ("_law_spoiled_here" : PySem.Str), ("_law_due" : PySem.Str)] "law" (defScope s_law) f cdv A outer s H E).xe := passes_of rfl
  exact (sb_cons (ss_set (i := 1) sc_law.nd rfl (Or.inl rfl) (se_call c_L_sides (hr.mono (by decide)) tk (sa_cons (se_var 0) (sa_cons se_int sa_nil))))
    (sb_cons (ss_set (i := 2) sc_law.nd rfl (Or.inl rfl) (se_call c_L_rows (hr.mono (by decide)) tk (sa_cons (se_var 0) (sa_cons se_int (sa_cons (se_ixV 1 se_int) (sa_cons (se_ixV 1 se_int) sa_nil))))))
    (sb_cons (ss_set (i := 3) sc_law.nd rfl (Or.inl rfl) (se_call c_L_spoiled (hr.mono (by decide)) tk (sa_cons (se_var 0) (sa_cons se_int (sa_cons (se_var 2) sa_nil)))))
    (sb_cons (ss_if (st_cmp (ops_eq hr.units) (se_fr (se_call c_L_draw (hr.mono (by decide)) tk (sa_cons (se_var 0) (sa_cons se_int (sa_cons se_int sa_nil))))) se_int) (sb_one (ss_set (i := 3) sc_law.nd rfl (Or.inl rfl) (se_call c_L_spoiled (hr.mono (by decide)) tk (sa_cons (se_var 0) (sa_cons se_int (sa_cons (se_var 3) sa_nil)))))) sb_nil)
    (sb_cons (ss_if (st_cmp (ops_eq hr.units) (se_fr (se_call c_L_draw (hr.mono (by decide)) tk (sa_cons (se_var 0) (sa_cons se_int (sa_cons se_int sa_nil))))) se_int) (sb_one (ss_set (i := 3) sc_law.nd rfl (Or.inl rfl) (se_call c_L_no_rows (hr.mono (by decide)) tk (sa_cons (se_var 0) (sa_cons se_int (sa_cons (se_var 2) sa_nil)))))) sb_nil)
    (sb_cons (ss_set (i := 4) sc_law.nd rfl (Or.inl rfl) (se_call c_L_fault (hr.mono (by decide)) tk (sa_cons (se_var 3) sa_nil)))
    (sb_cons (ss_if (st_cmp ops_is (se_var 4) se_non) (sb_one (ss_set (i := 4) sc_law.nd rfl (Or.inl rfl) (se_call c_L_packed (hr.mono (by decide)) tk (sa_cons (se_var 3) sa_nil)))) sb_nil)
    (sb_cons (ss_if (st_not (st_val (se_call c_L_alike (hr.mono (by decide)) tk (sa_cons (se_fr (se_call c_L_asked (hr.mono (by decide)) tk (sa_cons (se_var 3) sa_nil))) (sa_cons (se_var 4) sa_nil))))) (sb_one (ss_ret se_bl)) sb_nil)
    (sb_one (ss_ret (se_call c_L_alike (hr.mono (by decide)) tk (sa_cons (se_fr (se_call c_L_asked (hr.mono (by decide)) tk (sa_cons (se_var 2) sa_nil))) (sa_cons (se_fr (se_call c_L_packed (hr.mono (by decide)) tk (sa_cons (se_var 2) sa_nil))) sa_nil)))))))))))))
end
theorem all_mk {l : PySem.W.OpenLaw} {w : World} {K : PySem.W.Frag} {h : Heap} {mg : Str → Option Value} {ca : Cad} {fa : Addr} (X : K.In h) (G : h.Ns mainGlobals mg) (hfa : mg "law" = some (.ref fa))
    (z_ValueError_ : PySem.W.nsIn K mainGlobals "ValueError" = some none)
    (z_all_ : PySem.W.nsIn K mainGlobals "all" = some none)
    (z_bool_ : PySem.W.nsIn K mainGlobals "bool" = some none)
    (z_int_ : PySem.W.nsIn K mainGlobals "int" = some none)
    (z_isinstance : PySem.W.nsIn K mainGlobals "isinstance" = some none)
    (z_len : PySem.W.nsIn K mainGlobals "len" = some none)
    (z_list_ : PySem.W.nsIn K mainGlobals "list" = some none)
    (z_range : PySem.W.nsIn K mainGlobals "range" = some none)
    (z_reversed : PySem.W.nsIn K mainGlobals "reversed" = some none)
    (z_str_ : PySem.W.nsIn K mainGlobals "str" = some none)
    (z_tuple_ : PySem.W.nsIn K mainGlobals "tuple" = some none)
    {t_COLOURS : Tok} (g_COLOURS : PySem.W.nsIn K mainGlobals "COLOURS" = some (some (.int 16 t_COLOURS)))
    {t_MOST : Tok} (g_MOST : PySem.W.nsIn K mainGlobals "MOST" = some (some (.int 64 t_MOST)))
    {f0 : Addr} {od0 an0 : Option Addr} {sl0 : Array (Option Value)} {oc0 kV0 dc0 pm0 cd0 ct0 : Value}
    (a0 : PySem.W.nsIn K mainGlobals "is_whole" = some (some (.ref f0))) (l0 : K.lookup f0 = some ⟨oc0, od0, .func (PySem.W.fnOf "is_whole" "is_whole" (defArgs s_is_whole) (defBody s_is_whole) (defScope s_is_whole) .none kV0 dc0 pm0 an0 cd0 ct0), sl0⟩) (c0 : PySem.W.codeIn K cd0 "is_whole" = true) (k0 : PySem.W.keepIn K (.ref f0) = true)
    {f1 : Addr} {od1 an1 : Option Addr} {sl1 : Array (Option Value)} {oc1 kV1 dc1 pm1 cd1 ct1 : Value}
    (a1 : PySem.W.nsIn K mainGlobals "is_cell" = some (some (.ref f1))) (l1 : K.lookup f1 = some ⟨oc1, od1, .func (PySem.W.fnOf "is_cell" "is_cell" (defArgs s_is_cell) (defBody s_is_cell) (defScope s_is_cell) .none kV1 dc1 pm1 an1 cd1 ct1), sl1⟩) (c1 : PySem.W.codeIn K cd1 "is_cell" = true) (k1 : PySem.W.keepIn K (.ref f1) = true)
    {f2 : Addr} {od2 an2 : Option Addr} {sl2 : Array (Option Value)} {oc2 kV2 dc2 pm2 cd2 ct2 : Value}
    (a2 : PySem.W.nsIn K mainGlobals "is_row" = some (some (.ref f2))) (l2 : K.lookup f2 = some ⟨oc2, od2, .func (PySem.W.fnOf "is_row" "is_row" (defArgs s_is_row) (defBody s_is_row) (defScope s_is_row) .none kV2 dc2 pm2 an2 cd2 ct2), sl2⟩) (c2 : PySem.W.codeIn K cd2 "is_row" = true) (k2 : PySem.W.keepIn K (.ref f2) = true)
    {f3 : Addr} {od3 an3 : Option Addr} {sl3 : Array (Option Value)} {oc3 kV3 dc3 pm3 cd3 ct3 : Value}
    (a3 : PySem.W.nsIn K mainGlobals "row_bits" = some (some (.ref f3))) (l3 : K.lookup f3 = some ⟨oc3, od3, .func (PySem.W.fnOf "row_bits" "row_bits" (defArgs s_row_bits) (defBody s_row_bits) (defScope s_row_bits) .none kV3 dc3 pm3 an3 cd3 ct3), sl3⟩) (c3 : PySem.W.codeIn K cd3 "row_bits" = true) (k3 : PySem.W.keepIn K (.ref f3) = true)
    {f4 : Addr} {od4 an4 : Option Addr} {sl4 : Array (Option Value)} {oc4 kV4 dc4 pm4 cd4 ct4 : Value}
    (a4 : PySem.W.nsIn K mainGlobals "pictured" = some (some (.ref f4))) (l4 : K.lookup f4 = some ⟨oc4, od4, .func (PySem.W.fnOf "pictured" "pictured" (defArgs s_pictured) (defBody s_pictured) (defScope s_pictured) .none kV4 dc4 pm4 an4 cd4 ct4), sl4⟩) (c4 : PySem.W.codeIn K cd4 "pictured" = true) (k4 : PySem.W.keepIn K (.ref f4) = true)
    {f5 : Addr} {od5 an5 : Option Addr} {sl5 : Array (Option Value)} {oc5 kV5 dc5 pm5 cd5 ct5 : Value}
    (a5 : PySem.W.nsIn K mainGlobals "_law_draw" = some (some (.ref f5))) (l5 : K.lookup f5 = some ⟨oc5, od5, .func (PySem.W.fnOf "_law_draw" "_law_draw" (defArgs s_L_draw) (defBody s_L_draw) (defScope s_L_draw) .none kV5 dc5 pm5 an5 cd5 ct5), sl5⟩) (c5 : PySem.W.codeIn K cd5 "_law_draw" = true) (k5 : PySem.W.keepIn K (.ref f5) = true)
    {f6 : Addr} {od6 an6 : Option Addr} {sl6 : Array (Option Value)} {oc6 kV6 dc6 pm6 cd6 ct6 : Value}
    (a6 : PySem.W.nsIn K mainGlobals "_law_great" = some (some (.ref f6))) (l6 : K.lookup f6 = some ⟨oc6, od6, .func (PySem.W.fnOf "_law_great" "_law_great" (defArgs s_L_great) (defBody s_L_great) (defScope s_L_great) .none kV6 dc6 pm6 an6 cd6 ct6), sl6⟩) (c6 : PySem.W.codeIn K cd6 "_law_great" = true) (k6 : PySem.W.keepIn K (.ref f6) = true)
    {f7 : Addr} {od7 an7 : Option Addr} {sl7 : Array (Option Value)} {oc7 kV7 dc7 pm7 cd7 ct7 : Value}
    (a7 : PySem.W.nsIn K mainGlobals "_law_alike" = some (some (.ref f7))) (l7 : K.lookup f7 = some ⟨oc7, od7, .func (PySem.W.fnOf "_law_alike" "_law_alike" (defArgs s_L_alike) (defBody s_L_alike) (defScope s_L_alike) .none kV7 dc7 pm7 an7 cd7 ct7), sl7⟩) (c7 : PySem.W.codeIn K cd7 "_law_alike" = true) (k7 : PySem.W.keepIn K (.ref f7) = true)
    {f8 : Addr} {od8 an8 : Option Addr} {sl8 : Array (Option Value)} {oc8 kV8 dc8 pm8 cd8 ct8 : Value}
    (a8 : PySem.W.nsIn K mainGlobals "_law_sides" = some (some (.ref f8))) (l8 : K.lookup f8 = some ⟨oc8, od8, .func (PySem.W.fnOf "_law_sides" "_law_sides" (defArgs s_L_sides) (defBody s_L_sides) (defScope s_L_sides) .none kV8 dc8 pm8 an8 cd8 ct8), sl8⟩) (c8 : PySem.W.codeIn K cd8 "_law_sides" = true) (k8 : PySem.W.keepIn K (.ref f8) = true)
    {f9 : Addr} {od9 an9 : Option Addr} {sl9 : Array (Option Value)} {oc9 kV9 dc9 pm9 cd9 ct9 : Value}
    (a9 : PySem.W.nsIn K mainGlobals "_law_rows" = some (some (.ref f9))) (l9 : K.lookup f9 = some ⟨oc9, od9, .func (PySem.W.fnOf "_law_rows" "_law_rows" (defArgs s_L_rows) (defBody s_L_rows) (defScope s_L_rows) .none kV9 dc9 pm9 an9 cd9 ct9), sl9⟩) (c9 : PySem.W.codeIn K cd9 "_law_rows" = true) (k9 : PySem.W.keepIn K (.ref f9) = true)
    {f10 : Addr} {od10 an10 : Option Addr} {sl10 : Array (Option Value)} {oc10 kV10 dc10 pm10 cd10 ct10 : Value}
    (a10 : PySem.W.nsIn K mainGlobals "_law_packed" = some (some (.ref f10))) (l10 : K.lookup f10 = some ⟨oc10, od10, .func (PySem.W.fnOf "_law_packed" "_law_packed" (defArgs s_L_packed) (defBody s_L_packed) (defScope s_L_packed) .none kV10 dc10 pm10 an10 cd10 ct10), sl10⟩) (c10 : PySem.W.codeIn K cd10 "_law_packed" = true) (k10 : PySem.W.keepIn K (.ref f10) = true)
    {f11 : Addr} {od11 an11 : Option Addr} {sl11 : Array (Option Value)} {oc11 kV11 dc11 pm11 cd11 ct11 : Value}
    (a11 : PySem.W.nsIn K mainGlobals "_law_no_cell" = some (some (.ref f11))) (l11 : K.lookup f11 = some ⟨oc11, od11, .func (PySem.W.fnOf "_law_no_cell" "_law_no_cell" (defArgs s_L_no_cell) (defBody s_L_no_cell) (defScope s_L_no_cell) .none kV11 dc11 pm11 an11 cd11 ct11), sl11⟩) (c11 : PySem.W.codeIn K cd11 "_law_no_cell" = true) (k11 : PySem.W.keepIn K (.ref f11) = true)
    {f12 : Addr} {od12 an12 : Option Addr} {sl12 : Array (Option Value)} {oc12 kV12 dc12 pm12 cd12 ct12 : Value}
    (a12 : PySem.W.nsIn K mainGlobals "_law_no_row" = some (some (.ref f12))) (l12 : K.lookup f12 = some ⟨oc12, od12, .func (PySem.W.fnOf "_law_no_row" "_law_no_row" (defArgs s_L_no_row) (defBody s_L_no_row) (defScope s_L_no_row) .none kV12 dc12 pm12 an12 cd12 ct12), sl12⟩) (c12 : PySem.W.codeIn K cd12 "_law_no_row" = true) (k12 : PySem.W.keepIn K (.ref f12) = true)
    {f13 : Addr} {od13 an13 : Option Addr} {sl13 : Array (Option Value)} {oc13 kV13 dc13 pm13 cd13 ct13 : Value}
    (a13 : PySem.W.nsIn K mainGlobals "_law_spoiled" = some (some (.ref f13))) (l13 : K.lookup f13 = some ⟨oc13, od13, .func (PySem.W.fnOf "_law_spoiled" "_law_spoiled" (defArgs s_L_spoiled) (defBody s_L_spoiled) (defScope s_L_spoiled) .none kV13 dc13 pm13 an13 cd13 ct13), sl13⟩) (c13 : PySem.W.codeIn K cd13 "_law_spoiled" = true) (k13 : PySem.W.keepIn K (.ref f13) = true)
    {f14 : Addr} {od14 an14 : Option Addr} {sl14 : Array (Option Value)} {oc14 kV14 dc14 pm14 cd14 ct14 : Value}
    (a14 : PySem.W.nsIn K mainGlobals "_law_no_rows" = some (some (.ref f14))) (l14 : K.lookup f14 = some ⟨oc14, od14, .func (PySem.W.fnOf "_law_no_rows" "_law_no_rows" (defArgs s_L_no_rows) (defBody s_L_no_rows) (defScope s_L_no_rows) .none kV14 dc14 pm14 an14 cd14 ct14), sl14⟩) (c14 : PySem.W.codeIn K cd14 "_law_no_rows" = true) (k14 : PySem.W.keepIn K (.ref f14) = true)
    {f15 : Addr} {od15 an15 : Option Addr} {sl15 : Array (Option Value)} {oc15 kV15 dc15 pm15 cd15 ct15 : Value}
    (a15 : PySem.W.nsIn K mainGlobals "_law_cell_is" = some (some (.ref f15))) (l15 : K.lookup f15 = some ⟨oc15, od15, .func (PySem.W.fnOf "_law_cell_is" "_law_cell_is" (defArgs s_L_cell_is) (defBody s_L_cell_is) (defScope s_L_cell_is) .none kV15 dc15 pm15 an15 cd15 ct15), sl15⟩) (c15 : PySem.W.codeIn K cd15 "_law_cell_is" = true) (k15 : PySem.W.keepIn K (.ref f15) = true)
    {f16 : Addr} {od16 an16 : Option Addr} {sl16 : Array (Option Value)} {oc16 kV16 dc16 pm16 cd16 ct16 : Value}
    (a16 : PySem.W.nsIn K mainGlobals "_law_fault" = some (some (.ref f16))) (l16 : K.lookup f16 = some ⟨oc16, od16, .func (PySem.W.fnOf "_law_fault" "_law_fault" (defArgs s_L_fault) (defBody s_L_fault) (defScope s_L_fault) .none kV16 dc16 pm16 an16 cd16 ct16), sl16⟩) (c16 : PySem.W.codeIn K cd16 "_law_fault" = true) (k16 : PySem.W.keepIn K (.ref f16) = true)
    {f17 : Addr} {od17 an17 : Option Addr} {sl17 : Array (Option Value)} {oc17 kV17 dc17 pm17 cd17 ct17 : Value}
    (a17 : PySem.W.nsIn K mainGlobals "_law_apart" = some (some (.ref f17))) (l17 : K.lookup f17 = some ⟨oc17, od17, .func (PySem.W.fnOf "_law_apart" "_law_apart" (defArgs s_L_apart) (defBody s_L_apart) (defScope s_L_apart) .none kV17 dc17 pm17 an17 cd17 ct17), sl17⟩) (c17 : PySem.W.codeIn K cd17 "_law_apart" = true) (k17 : PySem.W.keepIn K (.ref f17) = true)
    {f18 : Addr} {od18 an18 : Option Addr} {sl18 : Array (Option Value)} {oc18 kV18 dc18 pm18 cd18 ct18 : Value}
    (a18 : PySem.W.nsIn K mainGlobals "_law_asked" = some (some (.ref f18))) (l18 : K.lookup f18 = some ⟨oc18, od18, .func (PySem.W.fnOf "_law_asked" "_law_asked" (defArgs s_L_asked) (defBody s_L_asked) (defScope s_L_asked) .none kV18 dc18 pm18 an18 cd18 ct18), sl18⟩) (c18 : PySem.W.codeIn K cd18 "_law_asked" = true) (k18 : PySem.W.keepIn K (.ref f18) = true)
    {f19 : Addr} {od19 an19 : Option Addr} {sl19 : Array (Option Value)} {oc19 kV19 dc19 pm19 cd19 ct19 : Value}
    (a19 : PySem.W.nsIn K mainGlobals "law" = some (some (.ref f19))) (l19 : K.lookup f19 = some ⟨oc19, od19, .func (PySem.W.fnOf "law" "law" (defArgs s_law) (defBody s_law) (defScope s_law) .none kV19 dc19 pm19 an19 cd19 ct19), sl19⟩) (c19 : PySem.W.codeIn K cd19 "law" = true) (k19 : PySem.W.keepIn K (.ref f19) = true)
    {C0 : Addr} (gX0 : PySem.W.nsIn K mainGlobals "GlowError" = some (some (.ref C0))) (hca0 : ca 0 = C0) (tyX0 : PySem.W.typeIn K (.ref C0) = some (.type "type")) (hdX0 : PySem.W.hasDictIn K C0 = true) (sbX0 : PySem.W.subIn K (.ref C0) (.type "BaseException") = some true)
    {C3 : Addr} (gX3 : PySem.W.nsIn K mainGlobals "NoFont" = some (some (.ref C3))) (hca3 : ca 3 = C3) (tyX3 : PySem.W.typeIn K (.ref C3) = some (.type "type")) (hdX3 : PySem.W.hasDictIn K C3 = true) (sbX3 : PySem.W.subIn K (.ref C3) (.type "BaseException") = some true)
    {C4 : Addr} (gX4 : PySem.W.nsIn K mainGlobals "NoLine" = some (some (.ref C4))) (hca4 : ca 4 = C4) (tyX4 : PySem.W.typeIn K (.ref C4) = some (.type "type")) (hdX4 : PySem.W.hasDictIn K C4 = true) (sbX4 : PySem.W.subIn K (.ref C4) (.type "BaseException") = some true)
    {C6 : Addr} (gX6 : PySem.W.nsIn K mainGlobals "NoNote" = some (some (.ref C6))) (hca6 : ca 6 = C6) (tyX6 : PySem.W.typeIn K (.ref C6) = some (.type "type")) (hdX6 : PySem.W.hasDictIn K C6 = true) (sbX6 : PySem.W.subIn K (.ref C6) (.type "BaseException") = some true)
    {C7 : Addr} (gX7 : PySem.W.nsIn K mainGlobals "NoPicture" = some (some (.ref C7))) (hca7 : ca 7 = C7) (tyX7 : PySem.W.typeIn K (.ref C7) = some (.type "type")) (hdX7 : PySem.W.hasDictIn K C7 = true) (sbX7 : PySem.W.subIn K (.ref C7) (.type "BaseException") = some true)
    {C8 : Addr} (gX8 : PySem.W.nsIn K mainGlobals "NoRow" = some (some (.ref C8))) (hca8 : ca 8 = C8) (tyX8 : PySem.W.typeIn K (.ref C8) = some (.type "type")) (hdX8 : PySem.W.hasDictIn K C8 = true) (sbX8 : PySem.W.subIn K (.ref C8) (.type "BaseException") = some true)
    {C12 : Addr} (gX12 : PySem.W.nsIn K mainGlobals "NoTable" = some (some (.ref C12))) (hca12 : ca 12 = C12) (tyX12 : PySem.W.typeIn K (.ref C12) = some (.type "type")) (hdX12 : PySem.W.hasDictIn K C12 = true) (sbX12 : PySem.W.subIn K (.ref C12) (.type "BaseException") = some true)
    {C13 : Addr} (gX13 : PySem.W.nsIn K mainGlobals "NoText" = some (some (.ref C13))) (hca13 : ca 13 = C13) (tyX13 : PySem.W.typeIn K (.ref C13) = some (.type "type")) (hdX13 : PySem.W.hasDictIn K C13 = true) (sbX13 : PySem.W.subIn K (.ref C13) (.type "BaseException") = some true)
    (hnX : PySem.W.specialIn K (.builtin "object.__class__") "__get__" = some (some (.builtin "getset_descriptor.__get__"))) (htX : PySem.W.takesIn K (.builtin "object.__class__") = some true)
    (gaG : PySem.W.specialIn K (.ref C0) "__getattribute__" = some (some (.builtin "type.__getattribute__"))) (rdG : PySem.W.readsIn K C0 (.type "type") = true) (fcG : PySem.W.findCls K (.ref C0) (.type "type") "__init__" = some (.val (.builtin "ValueError.__init__")))
    {NX7 : Addr} {nmX7 qX7 : Str} {bsX7 : List Value} {snX7 : List Str} {subX7 : List Value} {abX7 : Bool} {colX7 : Option Bool} {ddX7 : Option Addr} {m0X7 m1X7 m2X7 m3X7 m5X7 : Option Value}
    {fI7 : Addr} {odI7 anI7 : Option Addr} {slI7 : Array (Option Value)} {ocI7 kVI7 dcI7 pmI7 cdI7 ctI7 : Value}
    (xlX7 : K.lookup C7 = some (PySem.excClassObj nmX7 qX7 C7 NX7 bsX7 [.ref C0, .type "ValueError", .type "Exception", .type "BaseException", .type "object"] true snX7 subX7 abX7 colX7 ddX7 m0X7 m1X7 m2X7 m3X7 m5X7 "ValueError.__new__"))
    (saX7 : PySem.W.findIn K (.ref C7) "__setattr__" = some (some (.builtin "object.__setattr__")))
    (aiX7 : PySem.W.findIn K (.ref C7) "__init__" = some (some (.ref fI7))) (tiX7 : PySem.W.typeIn K (.ref fI7) = some (.type "function")) (liX7 : K.lookup fI7 = some ⟨ocI7, odI7, .func (PySem.W.fnOf "__init__" "NoPicture.__init__" (defArgs s_ini_NoPicture) (defBody s_ini_NoPicture) (defScope s_ini_NoPicture) .none kVI7 dcI7 pmI7 anI7 cdI7 ctI7), slI7⟩)
    (ciX7 : PySem.W.codeIn K cdI7 "NoPicture.__init__" = true) (kiX7 : PySem.W.keepIn K (.ref fI7) = true)
    (noX7_row : PySem.W.findIn K (.ref C7) ("row" : PySem.Str) = some none)
    (kpX7 : PySem.W.keepIn K (.ref C7) = true) (haX7 : PySem.W.findIn K (.ref C7) "__getattribute__" = some (some (.builtin "BaseException.__getattribute__"))) (hbX7 : PySem.W.findIn K (.ref C7) "__getattr__" = some none) (hcX7 : PySem.W.findIn K (.ref C7) "__class__" = some (some (.builtin "object.__class__"))) (hmX7 : PySem.W.mroIn K C7 (.type "object") = some true)
    (sX7_0 : PySem.W.subIn K (.ref C7) (.ref C0) = some true)
    (sX7_3 : PySem.W.subIn K (.ref C7) (.ref C3) = some false)
    (sX7_4 : PySem.W.subIn K (.ref C7) (.ref C4) = some false)
    (sX7_6 : PySem.W.subIn K (.ref C7) (.ref C6) = some false)
    (sX7_7 : PySem.W.subIn K (.ref C7) (.ref C7) = some true)
    (sX7_8 : PySem.W.subIn K (.ref C7) (.ref C8) = some false)
    (sX7_12 : PySem.W.subIn K (.ref C7) (.ref C12) = some false)
    (sX7_13 : PySem.W.subIn K (.ref C7) (.ref C13) = some false)
    (sX7_100 : PySem.W.subIn K (.ref C7) (.type "ValueError") = some true)
    : ∃ fd : FuncData, (∀ (s : Shared) (v : Value), BindsTo s fd ⟨[v], []⟩ [("_law_script", v)]) ∧ ∀ base : Heap, K.In base → base.Ns mainGlobals mg → FnG l.prog w K mg base (L2.CX l.prog w) 11 fa fd ["_law_script"] (spF ⟨K, ca⟩ F_law) := by
  have e := hfa.symm.trans (PySem.W.mg_of X G a19)
  cases e
  have B : Bi mg := ⟨PySem.W.mg_none_of X G z_ValueError_, PySem.W.mg_none_of X G z_all_, PySem.W.mg_none_of X G z_bool_, PySem.W.mg_none_of X G z_int_, PySem.W.mg_none_of X G z_isinstance, PySem.W.mg_none_of X G z_len, PySem.W.mg_none_of X G z_list_, PySem.W.mg_none_of X G z_range, PySem.W.mg_none_of X G z_reversed, PySem.W.mg_none_of X G z_str_, PySem.W.mg_none_of X G z_tuple_, ⟨_, PySem.W.mg_of X G g_COLOURS⟩, ⟨_, PySem.W.mg_of X G g_MOST⟩⟩
  have EC7 : ExcC K (ca 7) := by rw [hca7]; exact ⟨haX7, hbX7, sbX7, hdX7, hcX7, hnX, htX, hmX7⟩
  have BX : Bx l.prog w K mg ca := by
    refine ⟨?_, ?_, ?_, ?_, ?_, ?_, ?_, ?_, ?_, ?_, ?_, ?_, ?_, ?_, ?_, ?_, ?_, ?_, ?_, ?_, ?_, ?_, ?_, ?_, ?_, ?_, ?_, ?_⟩
    · rw [hca0]; exact PySem.W.mg_of X G gX0
    · exact fun k b h => by
          obtain ⟨hm, e⟩ := isT_cases h
          simp only [List.mem_cons, List.not_mem_nil, or_false] at hm
          subst hm
          rw [hca7, hca0]; exact catch_fact e.symm sbX0 hdX0 tyX0 sX7_0
    · exact fun k b h => by
          obtain ⟨hm, e⟩ := isT_cases h
          simp only [List.mem_cons, List.not_mem_nil, or_false] at hm
          subst hm
          exact ⟨EC7, by rw [hca7, hca0]; exact (kit_fact sX7_7 tyX0 hdX0 sX7_0).trans e.symm⟩
    · rw [hca0]; exact kit_factN tyX0 hdX0
    · rw [hca3]; exact PySem.W.mg_of X G gX3
    · exact fun k b h => by
          obtain ⟨hm, e⟩ := isT_cases h
          simp only [List.mem_cons, List.not_mem_nil, or_false] at hm
          subst hm
          rw [hca7, hca3]; exact catch_fact e.symm sbX3 hdX3 tyX3 sX7_3
    · exact fun k b h => by
          obtain ⟨hm, e⟩ := isT_cases h
          simp only [List.mem_cons, List.not_mem_nil, or_false] at hm
          subst hm
          exact ⟨EC7, by rw [hca7, hca3]; exact (kit_fact sX7_7 tyX3 hdX3 sX7_3).trans e.symm⟩
    · rw [hca4]; exact PySem.W.mg_of X G gX4
    · exact fun k b h => by
          obtain ⟨hm, e⟩ := isT_cases h
          simp only [List.mem_cons, List.not_mem_nil, or_false] at hm
          subst hm
          rw [hca7, hca4]; exact catch_fact e.symm sbX4 hdX4 tyX4 sX7_4
    · exact fun k b h => by
          obtain ⟨hm, e⟩ := isT_cases h
          simp only [List.mem_cons, List.not_mem_nil, or_false] at hm
          subst hm
          exact ⟨EC7, by rw [hca7, hca4]; exact (kit_fact sX7_7 tyX4 hdX4 sX7_4).trans e.symm⟩
    · rw [hca6]; exact PySem.W.mg_of X G gX6
    · exact fun k b h => by
          obtain ⟨hm, e⟩ := isT_cases h
          simp only [List.mem_cons, List.not_mem_nil, or_false] at hm
          subst hm
          rw [hca7, hca6]; exact catch_fact e.symm sbX6 hdX6 tyX6 sX7_6
    · exact fun k b h => by
          obtain ⟨hm, e⟩ := isT_cases h
          simp only [List.mem_cons, List.not_mem_nil, or_false] at hm
          subst hm
          exact ⟨EC7, by rw [hca7, hca6]; exact (kit_fact sX7_7 tyX6 hdX6 sX7_6).trans e.symm⟩
    · rw [hca7]; exact PySem.W.mg_of X G gX7
    · exact fun k b h => by
          obtain ⟨hm, e⟩ := isT_cases h
          simp only [List.mem_cons, List.not_mem_nil, or_false] at hm
          subst hm
          rw [hca7]; exact catch_fact e.symm sbX7 hdX7 tyX7 sX7_7
    · exact fun k b h => by
          obtain ⟨hm, e⟩ := isT_cases h
          simp only [List.mem_cons, List.not_mem_nil, or_false] at hm
          subst hm
          exact ⟨EC7, by rw [hca7]; exact (kit_fact sX7_7 tyX7 hdX7 sX7_7).trans e.symm⟩
    · rw [hca8]; exact PySem.W.mg_of X G gX8
    · exact fun k b h => by
          obtain ⟨hm, e⟩ := isT_cases h
          simp only [List.mem_cons, List.not_mem_nil, or_false] at hm
          subst hm
          rw [hca7, hca8]; exact catch_fact e.symm sbX8 hdX8 tyX8 sX7_8
    · exact fun k b h => by
          obtain ⟨hm, e⟩ := isT_cases h
          simp only [List.mem_cons, List.not_mem_nil, or_false] at hm
          subst hm
          exact ⟨EC7, by rw [hca7, hca8]; exact (kit_fact sX7_7 tyX8 hdX8 sX7_8).trans e.symm⟩
    · rw [hca12]; exact PySem.W.mg_of X G gX12
    · exact fun k b h => by
          obtain ⟨hm, e⟩ := isT_cases h
          simp only [List.mem_cons, List.not_mem_nil, or_false] at hm
          subst hm
          rw [hca7, hca12]; exact catch_fact e.symm sbX12 hdX12 tyX12 sX7_12
    · exact fun k b h => by
          obtain ⟨hm, e⟩ := isT_cases h
          simp only [List.mem_cons, List.not_mem_nil, or_false] at hm
          subst hm
          exact ⟨EC7, by rw [hca7, hca12]; exact (kit_fact sX7_7 tyX12 hdX12 sX7_12).trans e.symm⟩
    · rw [hca13]; exact PySem.W.mg_of X G gX13
    · exact fun k b h => by
          obtain ⟨hm, e⟩ := isT_cases h
          simp only [List.mem_cons, List.not_mem_nil, or_false] at hm
          subst hm
          rw [hca7, hca13]; exact catch_fact e.symm sbX13 hdX13 tyX13 sX7_13
    · exact fun k b h => by
          obtain ⟨hm, e⟩ := isT_cases h
          simp only [List.mem_cons, List.not_mem_nil, or_false] at hm
          subst hm
          exact ⟨EC7, by rw [hca7, hca13]; exact (kit_fact sX7_7 tyX13 hdX13 sX7_13).trans e.symm⟩
    · rw [hca7]; exact ⟨⟨⟨_, _, _, _, _, _, _, _, _, _, _, _, _, _, _, xlX7, (show PySem.HandSPX.refsVE [.type "ValueError", .type "Exception", .type "BaseException", .type "object"] = true by decide +kernel)⟩, saX7, sbX7, tyX7, kpX7⟩, (fun f hf => by simp only [List.mem_cons, List.not_mem_nil, or_false] at hf; subst hf; exact noX7_row), PySem.W.mg_of X G gX7, fI7, _, _, aiX7, tiX7, fun base => ini_NoPicture ⟨PySem.W.mg_of X G gX0, tyX0, gaG, rdG, fcG⟩ liX7 ciX7, (fun_mk (st := s_ini_NoPicture) liX7 ciX7 kiX7).binds (ps := [("self" : PySem.Str), ("row" : PySem.Str)]) fun _ _ _ _ _ _ us hl => match us, hl with | [_, _], _ => rfl⟩
    · exact fun k h => by
          have h := of_decide_eq_true h
          simp only [List.mem_cons, List.not_mem_nil, or_false] at h
          subst h
          · rw [hca7]; exact ⟨⟨haX7, hbX7, sbX7, hdX7⟩, noX7_row⟩
    · exact fun k b h => by
          obtain ⟨hm, e⟩ := isT_cases h
          simp only [List.mem_cons, List.not_mem_nil, or_false] at hm
          subst hm
          exact ⟨EC7, by rw [hca7]; exact (kit_factT (by decide +kernel) sX7_100).trans e.symm⟩
  have F0 := fun_mk (st := s_is_whole) l0 c0 k0
  have b0 := F0.binds (ps := [("thing" : PySem.Str)]) fun _ _ _ _ _ _ us hl => match us, hl with | [_], _ => rfl
  have F1 := fun_mk (st := s_is_cell) l1 c1 k1
  have b1 := F1.binds (ps := [("thing" : PySem.Str)]) fun _ _ _ _ _ _ us hl => match us, hl with | [_], _ => rfl
  have F2 := fun_mk (st := s_is_row) l2 c2 k2
  have b2 := F2.binds (ps := [("thing" : PySem.Str), ("wide" : PySem.Str)]) fun _ _ _ _ _ _ us hl => match us, hl with | [_, _], _ => rfl
  have F3 := fun_mk (st := s_row_bits) l3 c3 k3
  have b3 := F3.binds (ps := [("row" : PySem.Str)]) fun _ _ _ _ _ _ us hl => match us, hl with | [_], _ => rfl
  have F4 := fun_mk (st := s_pictured) l4 c4 k4
  have b4 := F4.binds (ps := [("rows" : PySem.Str)]) fun _ _ _ _ _ _ us hl => match us, hl with | [_], _ => rfl
  have F5 := fun_mk (st := s_L_draw) l5 c5 k5
  have b5 := F5.binds (ps := [("_law_script" : PySem.Str), ("_law_k" : PySem.Str), ("_law_many" : PySem.Str)]) fun _ _ _ _ _ _ us hl => match us, hl with | [_, _, _], _ => rfl
  have F6 := fun_mk (st := s_L_great) l6 c6 k6
  have b6 := F6.binds (ps := [("_law_script" : PySem.Str), ("_law_k" : PySem.Str), ("_law_many" : PySem.Str)]) fun _ _ _ _ _ _ us hl => match us, hl with | [_, _, _], _ => rfl
  have F7 := fun_mk (st := s_L_alike) l7 c7 k7
  have b7 := F7.binds (ps := [("_law_found" : PySem.Str), ("_law_due" : PySem.Str)]) fun _ _ _ _ _ _ us hl => match us, hl with | [_, _], _ => rfl
  have F8 := fun_mk (st := s_L_sides) l8 c8 k8
  have b8 := F8.binds (ps := [("_law_script" : PySem.Str), ("_law_k" : PySem.Str)]) fun _ _ _ _ _ _ us hl => match us, hl with | [_, _], _ => rfl
  have F9 := fun_mk (st := s_L_rows) l9 c9 k9
  have b9 := F9.binds (ps := [("_law_script" : PySem.Str), ("_law_k" : PySem.Str), ("_law_wide" : PySem.Str), ("_law_high" : PySem.Str)]) fun _ _ _ _ _ _ us hl => match us, hl with | [_, _, _, _], _ => rfl
  have F10 := fun_mk (st := s_L_packed) l10 c10 k10
  have b10 := F10.binds (ps := [("_law_rows_here" : PySem.Str)]) fun _ _ _ _ _ _ us hl => match us, hl with | [_], _ => rfl
  have F11 := fun_mk (st := s_L_no_cell) l11 c11 k11
  have b11 := F11.binds (ps := [("_law_script" : PySem.Str), ("_law_k" : PySem.Str)]) fun _ _ _ _ _ _ us hl => match us, hl with | [_, _], _ => rfl
  have F12 := fun_mk (st := s_L_no_row) l12 c12 k12
  have b12 := F12.binds (ps := [("_law_script" : PySem.Str), ("_law_k" : PySem.Str), ("_law_row" : PySem.Str)]) fun _ _ _ _ _ _ us hl => match us, hl with | [_, _, _], _ => rfl
  have F13 := fun_mk (st := s_L_spoiled) l13 c13 k13
  have b13 := F13.binds (ps := [("_law_script" : PySem.Str), ("_law_k" : PySem.Str), ("_law_rows_here" : PySem.Str)]) fun _ _ _ _ _ _ us hl => match us, hl with | [_, _, _], _ => rfl
  have F14 := fun_mk (st := s_L_no_rows) l14 c14 k14
  have b14 := F14.binds (ps := [("_law_script" : PySem.Str), ("_law_k" : PySem.Str), ("_law_rows_here" : PySem.Str)]) fun _ _ _ _ _ _ us hl => match us, hl with | [_, _, _], _ => rfl
  have F15 := fun_mk (st := s_L_cell_is) l15 c15 k15
  have b15 := F15.binds (ps := [("_law_cell" : PySem.Str)]) fun _ _ _ _ _ _ us hl => match us, hl with | [_], _ => rfl
  have F16 := fun_mk (st := s_L_fault) l16 c16 k16
  have b16 := F16.binds (ps := [("_law_rows_here" : PySem.Str)]) fun _ _ _ _ _ _ us hl => match us, hl with | [_], _ => rfl
  have F17 := fun_mk (st := s_L_apart) l17 c17 k17
  have b17 := F17.binds (ps := [("_law_e" : PySem.Str)]) fun _ _ _ _ _ _ us hl => match us, hl with | [_], _ => rfl
  have F18 := fun_mk (st := s_L_asked) l18 c18 k18
  have b18 := F18.binds (ps := [("_law_rows_here" : PySem.Str)]) fun _ _ _ _ _ _ us hl => match us, hl with | [_], _ => rfl
  have F19 := fun_mk (st := s_law) l19 c19 k19
  refine ⟨PySem.W.fnOf "law" "law" (defArgs s_law) (defBody s_law) (defScope s_law) .none kV19 dc19 pm19 an19 cd19 ct19, fun s v => .of_eq rfl, fun base _ _ => ?_⟩
  have c_is_whole : Cal l.prog w K mg base ca 1 "is_whole" [] F_is_whole := Cal.mk0 F0 (fn_ok F0 sc_is_whole fun cdv A outer s H E hr => snd_is_whole B BX  hr) (PySem.W.mg_of X G a0) b0
  have c_is_cell : Cal l.prog w K mg base ca 2 "is_cell" [] F_is_cell := Cal.mk0 F1 (fn_ok F1 sc_is_cell fun cdv A outer s H E hr => snd_is_cell B BX c_is_whole hr) (PySem.W.mg_of X G a1) b1
  have c_is_row : Cal l.prog w K mg base ca 3 "is_row" [] F_is_row := Cal.mk0 F2 (fn_ok F2 sc_is_row fun cdv A outer s H E hr => snd_is_row B BX c_is_cell hr) (PySem.W.mg_of X G a2) b2
  have c_row_bits : Cal l.prog w K mg base ca 1 "row_bits" [] F_row_bits := Cal.mk0 F3 (fn_ok F3 sc_row_bits fun cdv A outer s H E hr => snd_row_bits B BX  hr) (PySem.W.mg_of X G a3) b3
  have c_pictured : Cal l.prog w K mg base ca 4 "pictured" [] F_pictured := Cal.mk0 F4 (fn_ok F4 sc_pictured fun cdv A outer s H E hr => snd_pictured B BX c_is_row c_row_bits hr) (PySem.W.mg_of X G a4) b4
  have c_L_draw : Cal l.prog w K mg base ca 1 "_law_draw" [] F_L_draw := Cal.mk0 F5 (fn_ok F5 sc_L_draw fun cdv A outer s H E hr => snd_L_draw B BX  hr) (PySem.W.mg_of X G a5) b5
  have c_L_great : Cal l.prog w K mg base ca 1 "_law_great" [] F_L_great := Cal.mk0 F6 (fn_ok F6 sc_L_great fun cdv A outer s H E hr => snd_L_great B BX  hr) (PySem.W.mg_of X G a6) b6
  have cr_L_alike : ∀ n, Cal l.prog w K mg base ca (n + 0) "_law_alike" [] (Fr_L_alike n) := by
    intro n
    induction n with
    | zero => exact Cal.mk0 F7 fn_bad (PySem.W.mg_of X G a7) b7
    | succ n ih => exact Cal.mk0 F7 ((fn_ok F7 sc_L_alike fun cdv A outer s H E hr => snd_L_alike (n := n) (F_L_alike := Fr_L_alike n) B BX  ih hr).mono (by omega)) (PySem.W.mg_of X G a7) b7
  have c_L_alike := cr_L_alike 10
  have c_L_sides : Cal l.prog w K mg base ca 2 "_law_sides" [] F_L_sides := Cal.mk0 F8 (fn_ok F8 sc_L_sides fun cdv A outer s H E hr => snd_L_sides B BX c_L_draw hr) (PySem.W.mg_of X G a8) b8
  have c_L_rows : Cal l.prog w K mg base ca 2 "_law_rows" [] F_L_rows := Cal.mk0 F9 (fn_ok F9 sc_L_rows fun cdv A outer s H E hr => snd_L_rows B BX c_L_draw hr) (PySem.W.mg_of X G a9) b9
  have c_L_packed : Cal l.prog w K mg base ca 1 "_law_packed" [] F_L_packed := Cal.mk0 F10 (fn_ok F10 sc_L_packed fun cdv A outer s H E hr => snd_L_packed B BX  hr) (PySem.W.mg_of X G a10) b10
  have c_L_no_cell : Cal l.prog w K mg base ca 2 "_law_no_cell" [] F_L_no_cell := Cal.mk0 F11 (fn_ok F11 sc_L_no_cell fun cdv A outer s H E hr => snd_L_no_cell B BX c_L_draw c_L_great hr) (PySem.W.mg_of X G a11) b11
  have c_L_no_row : Cal l.prog w K mg base ca 2 "_law_no_row" [] F_L_no_row := Cal.mk0 F12 (fn_ok F12 sc_L_no_row fun cdv A outer s H E hr => snd_L_no_row B BX c_L_draw hr) (PySem.W.mg_of X G a12) b12
  have c_L_spoiled : Cal l.prog w K mg base ca 3 "_law_spoiled" [] F_L_spoiled := Cal.mk0 F13 (fn_ok F13 sc_L_spoiled fun cdv A outer s H E hr => snd_L_spoiled B BX c_L_draw c_L_no_cell c_L_no_row hr) (PySem.W.mg_of X G a13) b13
  have c_L_no_rows : Cal l.prog w K mg base ca 2 "_law_no_rows" [] F_L_no_rows := Cal.mk0 F14 (fn_ok F14 sc_L_no_rows fun cdv A outer s H E hr => snd_L_no_rows B BX c_L_draw hr) (PySem.W.mg_of X G a14) b14
  have c_L_cell_is : Cal l.prog w K mg base ca 1 "_law_cell_is" [] F_L_cell_is := Cal.mk0 F15 (fn_ok F15 sc_L_cell_is fun cdv A outer s H E hr => snd_L_cell_is B BX  hr) (PySem.W.mg_of X G a15) b15
  have c_L_fault : Cal l.prog w K mg base ca 2 "_law_fault" [] F_L_fault := Cal.mk0 F16 (fn_ok F16 sc_L_fault fun cdv A outer s H E hr => snd_L_fault B BX c_L_cell_is hr) (PySem.W.mg_of X G a16) b16
  have c_L_apart : CalE l.prog w K mg base ca 1 "_law_apart" F_L_apart := CalE.mk0 F17 (fun a_ dd_ e_ oe_ d_ hz hv hd => fn_okE F17 sc_L_apart fun cdv A outer s H E hr => snd_L_apart B BX hz hv hd hr) (PySem.W.mg_of X G a17) b17
  have c_L_asked : Cal l.prog w K mg base ca 5 "_law_asked" [] F_L_asked := Cal.mk0 F18 (fn_ok F18 sc_L_asked fun cdv A outer s H E hr => snd_L_asked B BX c_L_apart c_pictured hr) (PySem.W.mg_of X G a18) b18
  exact fn_ok F19 sc_law fun cdv A outer s H E hr => snd_law B BX c_L_alike c_L_asked c_L_draw c_L_fault c_L_no_rows c_L_packed c_L_rows c_L_sides c_L_spoiled hr
local macro_rules | `(tactic| walk_at "ev") => `(tactic| simp -implicitDefEqProofs (disch := first | omega | (simp -implicitDefEqProofs only [p_int, p_non, p_bl, p_lst, p_tup, p_nil, p_cons, List.length_cons, List.length_nil, Nat.reduceAdd, Nat.reduceLT, decide_true, Bool.and_self, Bool.true_and]; done) | (simp -implicitDefEqProofs only [List.length_map, List.length_append, List.length_reverse, List.length_range, List.length_replicate, List.length_cons, List.length_nil, List.length_take, List.length_drop, rangeD_length]; omega) | assumption) only [v_bnd, v_bnd_exc, v_bnd_bad, v_bnd_ite, v_d1, v_d2, v_d2k, v_okS, v_fS, v_gInt, v_gCmp, v_eq_int, v_ne_int, v_eq_bl, v_ne_bl, v_gLt_int, v_gLt_pair, v_eq_strS, v_eq_str, v_ne_strS, v_ne_str, v_eq_ni, v_eq_in, v_eq_nn, v_ne_ni, v_ne_in, v_ne_nn, v_is_non, v_is_bl, v_isnot_non, v_isnot_bl, v_isn_non, v_isn_bl, v_isn_int, v_isn_str, v_isn_lst, v_isn_tup, v_mod, v_div, v_mul_l, v_mul_r, v_mul_mm, v_pow, v_shl, v_shls, v_shl_mm, v_shr, v_add_int, v_add_str, v_add_lst, v_add_tup, v_mul_int, v_mul_lst, v_U, v_var, v_vark, v_vark_dicI, v_movk_dicI0, v_vark_lstI, v_move, v_movk, v_movk_lstI, v_movk_lst, v_Lend, v_tLend, v_lendtk, v_lendtk_lstI, v_lendt2, v_ListV, v_lsvk, v_lendk, v_lendk_lstI, v_lend2, v_noBs_nil, v_noBs, v_noB_imm, v_noB_dead, v_noB_lstI, v_noB_lst, v_C, v_Fr, v_frk, v_frk_lstI, v_Dic0, v_Dic1, v_fDic1, v_frk_dicI, v_isn_dic, v_Nil, v_Cons, v_consk, v_consk2, v_Tup, v_fTup, v_tupk, v_Lst, v_fLst, v_lstk, v_frzs_nil, v_frzs, v_frzs_dicI, v_frzs_lstI, v_frzk, v_frz, v_frz_lstI, v_Bi, v_Call, v_callk, v_after, v_after_exc, v_after_ite, v_Seq, v_seqk, v_seqk_ret, v_seqk_exc, v_seqk_brk, v_seqk_cont, v_seqk_ite, v_exk, v_exk_exc, v_exk_ite, v_Raise, v_Try, v_tryk, v_exD, v_IsE, v_isek, v_anyO_nil, v_anyO_t, v_anyO_f, v_isT_nil, v_isT, v_isT2, v_Xf, v_Pass, v_Break, v_Cont, v_Set, v_setk, v_Ret, v_retk, v_RetN, v_Drop, v_dropk, v_Asg, v_asgk, v_asgk2, v_gName, v_gTup, v_gNil, v_gCons, v_gck, v_If, v_ifk, v_ifk_exc, v_ifk_ite, v_iteS_t, v_iteS_f, v_iteS_d, v_iteS_n, v_tVal, v_asBool, v_tAnd, v_tandk_t, v_tandk_f, v_tandk_d, v_tOr, v_tork_t, v_tork_f, v_tork_d, v_tNot, v_tnotk, v_tYes, v_And, v_andk_t, v_andk_f, v_andk_d, v_Or, v_ork_f, v_ork_t, v_ork_d, v_Not, v_notk, v_IfE, v_ifek, v_ifek_ite, v_iteE_t, v_iteE_f, v_iteE_d, v_iteE_n, v_fin_next, v_fin_ret, v_fin_exc, v_fin_ite, v_mkFn, v_rep0, v_repS, v_fLen, v_lenk, v_len_lst, v_len_tup, v_len_scr, v_len_str, v_lenV, v_lenvk, v_lenvk_lstI, v_lenvk_lst, v_fMinP2, v_fMinP_1, v_fMinP_2, v_fRepr, v_reprk, v_fAbs, v_fMax2, v_fMin2, v_fInt, v_fInt_bl, v_fTuple_l, v_bfl_f, v_bfl_t, v_fTuple_t, v_fList_l, v_fList_t, v_fList_b, v_fList_s, v_fBools, v_blk, v_fSum, v_sumk, v_intList, v_ints_nil, v_ints, v_bools_nil, v_bools, v_consO, v_isi, v_isik, v_isik2, v_isit, v_isitk, v_isIn_nil, v_isIn, v_isInk_t, v_isInk_f, v_tyB, v_ite_lt_t, v_ite_lt_f, v_ite_le_t, v_ite_le_f, v_ite_eq_t, v_ite_eq_f1, v_ite_eq_f2, v_Chain, v_chk1, v_chk2, v_chk3_t, v_chk3_f, v_chk3_d, v_okT, v_fIx, v_gIx_lst, v_gIx_tup, v_gIx_scr, v_itm_f, v_itm_int, v_itm_non, v_itm_lst, v_itm_tup, v_itm_str, v_ixV, v_ixk_lstI, v_ixk_imm, v_ixk2, v_ixk2', v_ixk3, v_ixk4, v_at0, v_at1, v_at2, v_at3, v_at4, v_at5, v_at6, v_at7, v_at8, v_at9, v_oNone, v_oSome, v_somek, v_Sl, v_slk, v_slk2, v_slk3, v_fSl_lst, v_fSl_tup, v_fSl_scr, v_cut_take, v_cut_drop, v_cut_mid, v_Append, v_appk, v_appk2, v_appk3, v_Clear, v_Reverse, v_rvsk, v_Lr, v_revk, v_Tr, v_tuprk, v_BitL, v_bitk, v_clrk, v_Pop, v_popk, v_Extend, v_extk, v_extk2, v_extk3, v_For, v_fork, v_for_nil, v_forkg, v_forkk, v_forkk_cont, v_forkk_brk, v_forkk_ret, v_forkk_exc, v_iVal, v_items_lst, v_items_tup, v_items_scr, v_iRange1, v_iRange3, v_iRange2, v_range1, v_range2, v_rangeD0, v_iRev, v_rev_lst, v_rev_tup, v_Lc, v_lck, v_lcf, v_kill0, v_killS, v_comp_nil, v_ckg, v_ck1_t, v_ck1_f, v_ck2, v_ck3, v_ck4, v_obind, v_asO, v_asO_nil, v_frk_lst, v_frlk, v_vark_lst, v_varl, v_lendk_lst, v_lendl, v_lendtk_lst, v_lendtl, v_frzs_lst, v_frzlk, v_AppendO, v_apo, v_pushk, v_pushk3, v_PopO, v_popk2, v_Append2, v_ap2a, v_app2, v_app2b, v_app2c, v_app3, v_app3_lstI, v_SetIx, v_sixk, v_sixk_lstI, v_six0, v_sixa, v_six, v_ForO, v_forOk, v_SetIx2, v_set2k, v_set2k_lstI, v_s20, v_s2a, v_s2b, v_s2c, v_s2d, v_s2d0, v_LcO, v_lckO1, v_lckO, v_dOrd, v_fOrd, v_ordk, v_fSortI, v_sortk, v_dLstRg, v_fLstRg, v_dMinDef, v_fMinDef, v_mindk, v_iEnumZ, v_enumZItems, v_Try0, v_tryk0, v_tryk0_ret, v_tryk0_exc, v_tryq0_t, v_tryq0_f, v_noExc_next, v_noExc_ret, v_noExc_brk, v_noExc_cont, v_Fld, v_fldk, v_Make, v_makek, v_afterMake, v_afterMakeX, v_Meth, v_methk, v_callo, v_Meth0, v_methk0, v_fDGet, v_fDictP, v_LenSet, v_lenSk, v_iRevRg, v_revRg, v_vark_obj, v_varo, v_frk_obj, v_frok, v_dMaxDef, v_fMaxDef, v_maxdk, v_MethD, v_mdk, v_MethD0, v_mdk0, v_methD, v_methD0, v_IsO, v_isOk, v_iZipT, v_zipItemsT, v_fSort2, v_LcX, v_lckX, v_endX, v_endX_exc, v_iEnumT, v_enumItemsT, v_ListW, v_lswk1, v_lswk2, v_MakeL, v_mklk, v_mkla, v_LCnt, v_lckc, v_lck2, v_DPop, v_dpk, v_dpopk, v_dpk2, v_KeysO, v_dikk, v_LendD, v_lendDk, v_lendDk_lstI, v_lendDk_dicI, v_lendD2, v_lendk_dicI, v_noB_dicI, v_ONew, v_O1, v_OIn, v_oink, v_oik2_f, v_oik2_t, v_oKey_non, v_oKey_int, v_OGet, v_ogk0, v_ogk, v_ogk2, v_OPut, v_opk0, v_opk1, v_opk2, v_opk3, v_noB_dic, v_dT1, v_t1k, v_dT0, v_t0k, v_fSplit, v_fFindT, v_fStarts, v_iEnum, v_enumItems, v_iZip, v_zipItems, v_RaiseF, v_raisx, v_raisk1, v_raisk1_int, v_raisk1_non, v_raisk2, v_isT2n, v_xfk1, v_xfk2a, v_xfk2b, v_inT_str, v_ninT_str, v_inT_non, v_inT_int, v_inT_bl, v_inT_lst, v_ninT_non, v_ninT_int, v_ninT_bl, v_ninT_lst, v_ClearO, v_clro, v_Clear2, v_clr20, v_clr2, v_clr2a, v_clr2b, v_gConsI, v_FldO, v_fldo, v_PutF, v_putfk, v_putfk_exc, v_putk, v_MethO0, v_MethO, v_methOq, v_methok, v_afterO, v_afterO_exc, v_finX_next, v_finX_ret, v_finX_exc, v_gNinU, v_gInU, v_DicS, v_KGet, v_kgk, v_KPut, v_kput0, v_kput1, v_CallS1, v_callS1, v_CallS2, v_callS2q, v_callS2k, v_isImm, v_isDic, v_callS3, v_afterS, v_afterS_exc, v_mkFnX, v_gNinL, v_gInL_bl, v_MkE, v_mkek1, v_mkek2, v_MkE0, v_mke0k, v_IsV, v_isVk, v_Xv, v_xvk, v_dVals_nil, v_dVals, v_dvk, v_dvk_l, v_dvc, v_DicN, v_dnk, v_KGetE, v_kge, v_kgek1, v_KPutA, v_kputA0, v_kputA0_l, v_CallO1, v_cO1q, v_cO1k, v_callO1k, v_ownO, v_own_obj, v_own_dicI, v_CallO2, v_cO2q, v_cO2k, v_callO2k, v_aft2, v_aft2_exc, v_LstO, v_fLstO, v_TupO, v_fTupO, v_ClrT, v_MethI0, v_KGetI, v_afterI, v_CallI2, v_Dct, v_dctk, v_TGet, v_tgk, v_tgk_l, v_TPut, v_tputx, v_tputx_exc, v_tputk, v_tputk0, v_TPutI, v_tputIx, v_AppT, v_appTk, v_appTk2, v_tgek, v_TGetE, v_tgeq, v_isDct, v_KtNew, v_KtIn, v_ktin, v_ktin2, v_KtPut, v_ktp0, v_ktp1, v_ktp2, v_ktp3, v_sLend, v_sLendk_l, v_sLendk_i, v_lendR, v_lendR_exc, v_MethO2, v_mO2q, v_mO2k, v_PutIx, v_putIxk, v_putIx, v_putIxb, v_InsI, v_insI, v_insIb, v_PopI, v_popI, v_CallE, v_callEk, v_IsN, v_isNk, v_gEmp0, v_gEmp1, v_LIdx, v_lxk, v_lxk2, v_S_eq, v_add_S, v_eq_S, v_ne_S, v_items_S, v_gIx_S, v_fSl_S, v_len_S, v_fSplit_S, v_fJoin_sg, v_inT_S, v_ninT_S, v_zfill, v_index16, v_index10, isB_NoneType_int, isB_NoneType_bool, isB_NoneType_str, isB_NoneType_list, isB_NoneType_tuple, isB_NoneType_dict, isB_bool_int, isB_bool_bool, isB_bool_str, isB_bool_list, isB_bool_tuple, isB_bool_dict, isB_int_int, isB_int_bool, isB_int_str, isB_int_list, isB_int_tuple, isB_int_dict, isB_str_int, isB_str_bool, isB_str_str, isB_str_list, isB_str_tuple, isB_str_dict, isB_list_int, isB_list_bool, isB_list_str, isB_list_list, isB_list_tuple, isB_list_dict, isB_tuple_int, isB_tuple_bool, isB_tuple_str, isB_tuple_list, isB_tuple_tuple, isB_tuple_dict, isB_dict_int, isB_dict_bool, isB_dict_str, isB_dict_list, isB_dict_tuple, isB_dict_dict, kind_NoneType, kind_bool, kind_int, kind_str, kind_list, kind_tuple, kind_dict, List.getElem?_cons_zero, List.getElem?_cons_succ, List.getElem?_nil, List.set_cons_zero, List.set_cons_succ, List.length_cons, List.length_nil, List.cons_append, List.nil_append, List.append_nil, List.map_nil, List.map_cons, Nat.reduceAdd, Nat.reduceSub, Nat.reduceMul, Nat.reduceEqDiff, Nat.reduceLeDiff, Nat.zero_add, Nat.add_zero, Bool.not_true, Bool.not_false, Bool.and_true, Bool.true_and, Bool.and_false, Bool.false_and, Bool.or_true, Bool.true_or, Bool.or_false, Bool.false_or, Bool.not_not, Bool.and_self, Bool.or_self, Option.map_some, Option.map_none, decide_true, decide_false, reduceCtorEq, Bool.false_eq_true, List.all_nil, List.all_cons, id_eq, ↓reduceIte, if_true, if_false, beq_self_eq_true, Int.reduceAdd, Int.reduceSub, Int.reduceMul, Int.reduceNeg, Int.reduceLT, Int.reduceLE, Int.reduceEq, Int.reduceNe, Int.reduceToNat, Int.reduceMod, Int.reduceDiv, Int.reducePow, Nat.reducePow, Nat.reduceBEq, Int.toNat_natCast, Int.zero_add, Int.add_zero, Int.sub_zero, ne_eq, not_true_eq_false, not_false_eq_true, and_true, true_and, and_self, Nat.lt_irrefl, Int.natCast_eq_zero, decide_not, eqv_int, List.length_append, List.length_map, Int.cast_ofNat_Int, List.sum_cons, List.sum_nil, ints_map, bools_map])
local macro_rules | `(tactic| walk_at "ev*") => `(tactic| simp -implicitDefEqProofs (disch := first | omega | (simp -implicitDefEqProofs only [p_int, p_non, p_bl, p_lst, p_tup, p_nil, p_cons, List.length_cons, List.length_nil, Nat.reduceAdd, Nat.reduceLT, decide_true, Bool.and_self, Bool.true_and]; done) | (simp -implicitDefEqProofs only [List.length_map, List.length_append, List.length_reverse, List.length_range, List.length_replicate, List.length_cons, List.length_nil, List.length_take, List.length_drop, rangeD_length]; omega) | assumption) only [v_bnd, v_bnd_exc, v_bnd_bad, v_bnd_ite, v_d1, v_d2, v_d2k, v_okS, v_fS, v_gInt, v_gCmp, v_eq_int, v_ne_int, v_eq_bl, v_ne_bl, v_gLt_int, v_gLt_pair, v_eq_strS, v_eq_str, v_ne_strS, v_ne_str, v_eq_ni, v_eq_in, v_eq_nn, v_ne_ni, v_ne_in, v_ne_nn, v_is_non, v_is_bl, v_isnot_non, v_isnot_bl, v_isn_non, v_isn_bl, v_isn_int, v_isn_str, v_isn_lst, v_isn_tup, v_mod, v_div, v_mul_l, v_mul_r, v_mul_mm, v_pow, v_shl, v_shls, v_shl_mm, v_shr, v_add_int, v_add_str, v_add_lst, v_add_tup, v_mul_int, v_mul_lst, v_U, v_var, v_vark, v_vark_dicI, v_movk_dicI0, v_vark_lstI, v_move, v_movk, v_movk_lstI, v_movk_lst, v_Lend, v_tLend, v_lendtk, v_lendtk_lstI, v_lendt2, v_ListV, v_lsvk, v_lendk, v_lendk_lstI, v_lend2, v_noBs_nil, v_noBs, v_noB_imm, v_noB_dead, v_noB_lstI, v_noB_lst, v_C, v_Fr, v_frk, v_frk_lstI, v_Dic0, v_Dic1, v_fDic1, v_frk_dicI, v_isn_dic, v_Nil, v_Cons, v_consk, v_consk2, v_Tup, v_fTup, v_tupk, v_Lst, v_fLst, v_lstk, v_frzs_nil, v_frzs, v_frzs_dicI, v_frzs_lstI, v_frzk, v_frz, v_frz_lstI, v_Bi, v_Call, v_callk, v_after, v_after_exc, v_after_ite, v_Seq, v_seqk, v_seqk_ret, v_seqk_exc, v_seqk_brk, v_seqk_cont, v_seqk_ite, v_exk, v_exk_exc, v_exk_ite, v_Raise, v_Try, v_tryk, v_exD, v_IsE, v_isek, v_anyO_nil, v_anyO_t, v_anyO_f, v_isT_nil, v_isT, v_isT2, v_Xf, v_Pass, v_Break, v_Cont, v_Set, v_setk, v_Ret, v_retk, v_RetN, v_Drop, v_dropk, v_Asg, v_asgk, v_asgk2, v_gName, v_gTup, v_gNil, v_gCons, v_gck, v_If, v_ifk, v_ifk_exc, v_ifk_ite, v_iteS_t, v_iteS_f, v_iteS_d, v_iteS_n, v_tVal, v_asBool, v_tAnd, v_tandk_t, v_tandk_f, v_tandk_d, v_tOr, v_tork_t, v_tork_f, v_tork_d, v_tNot, v_tnotk, v_tYes, v_And, v_andk_t, v_andk_f, v_andk_d, v_Or, v_ork_f, v_ork_t, v_ork_d, v_Not, v_notk, v_IfE, v_ifek, v_ifek_ite, v_iteE_t, v_iteE_f, v_iteE_d, v_iteE_n, v_fin_next, v_fin_ret, v_fin_exc, v_fin_ite, v_mkFn, v_rep0, v_repS, v_fLen, v_lenk, v_len_lst, v_len_tup, v_len_scr, v_len_str, v_lenV, v_lenvk, v_lenvk_lstI, v_lenvk_lst, v_fMinP2, v_fMinP_1, v_fMinP_2, v_fRepr, v_reprk, v_fAbs, v_fMax2, v_fMin2, v_fInt, v_fInt_bl, v_fTuple_l, v_bfl_f, v_bfl_t, v_fTuple_t, v_fList_l, v_fList_t, v_fList_b, v_fList_s, v_fBools, v_blk, v_fSum, v_sumk, v_intList, v_ints_nil, v_ints, v_bools_nil, v_bools, v_consO, v_isi, v_isik, v_isik2, v_isit, v_isitk, v_isIn_nil, v_isIn, v_isInk_t, v_isInk_f, v_tyB, v_ite_lt_t, v_ite_lt_f, v_ite_le_t, v_ite_le_f, v_ite_eq_t, v_ite_eq_f1, v_ite_eq_f2, v_Chain, v_chk1, v_chk2, v_chk3_t, v_chk3_f, v_chk3_d, v_okT, v_fIx, v_gIx_lst, v_gIx_tup, v_gIx_scr, v_itm_f, v_itm_int, v_itm_non, v_itm_lst, v_itm_tup, v_itm_str, v_ixV, v_ixk_lstI, v_ixk_imm, v_ixk2, v_ixk2', v_ixk3, v_ixk4, v_at0, v_at1, v_at2, v_at3, v_at4, v_at5, v_at6, v_at7, v_at8, v_at9, v_oNone, v_oSome, v_somek, v_Sl, v_slk, v_slk2, v_slk3, v_fSl_lst, v_fSl_tup, v_fSl_scr, v_cut_take, v_cut_drop, v_cut_mid, v_Append, v_appk, v_appk2, v_appk3, v_Clear, v_Reverse, v_rvsk, v_Lr, v_revk, v_Tr, v_tuprk, v_BitL, v_bitk, v_clrk, v_Pop, v_popk, v_Extend, v_extk, v_extk2, v_extk3, v_For, v_fork, v_for_nil, v_forkg, v_forkk, v_forkk_cont, v_forkk_brk, v_forkk_ret, v_forkk_exc, v_iVal, v_items_lst, v_items_tup, v_items_scr, v_iRange1, v_iRange3, v_iRange2, v_range1, v_range2, v_rangeD0, v_iRev, v_rev_lst, v_rev_tup, v_Lc, v_lck, v_lcf, v_kill0, v_killS, v_comp_nil, v_ckg, v_ck1_t, v_ck1_f, v_ck2, v_ck3, v_ck4, v_obind, v_asO, v_asO_nil, v_frk_lst, v_frlk, v_vark_lst, v_varl, v_lendk_lst, v_lendl, v_lendtk_lst, v_lendtl, v_frzs_lst, v_frzlk, v_AppendO, v_apo, v_pushk, v_pushk3, v_PopO, v_popk2, v_Append2, v_ap2a, v_app2, v_app2b, v_app2c, v_app3, v_app3_lstI, v_SetIx, v_sixk, v_sixk_lstI, v_six0, v_sixa, v_six, v_ForO, v_forOk, v_SetIx2, v_set2k, v_set2k_lstI, v_s20, v_s2a, v_s2b, v_s2c, v_s2d, v_s2d0, v_LcO, v_lckO1, v_lckO, v_dOrd, v_fOrd, v_ordk, v_fSortI, v_sortk, v_dLstRg, v_fLstRg, v_dMinDef, v_fMinDef, v_mindk, v_iEnumZ, v_enumZItems, v_Try0, v_tryk0, v_tryk0_ret, v_tryk0_exc, v_tryq0_t, v_tryq0_f, v_noExc_next, v_noExc_ret, v_noExc_brk, v_noExc_cont, v_Fld, v_fldk, v_Make, v_makek, v_afterMake, v_afterMakeX, v_Meth, v_methk, v_callo, v_Meth0, v_methk0, v_fDGet, v_fDictP, v_LenSet, v_lenSk, v_iRevRg, v_revRg, v_vark_obj, v_varo, v_frk_obj, v_frok, v_dMaxDef, v_fMaxDef, v_maxdk, v_MethD, v_mdk, v_MethD0, v_mdk0, v_methD, v_methD0, v_IsO, v_isOk, v_iZipT, v_zipItemsT, v_fSort2, v_LcX, v_lckX, v_endX, v_endX_exc, v_iEnumT, v_enumItemsT, v_ListW, v_lswk1, v_lswk2, v_MakeL, v_mklk, v_mkla, v_LCnt, v_lckc, v_lck2, v_DPop, v_dpk, v_dpopk, v_dpk2, v_KeysO, v_dikk, v_LendD, v_lendDk, v_lendDk_lstI, v_lendDk_dicI, v_lendD2, v_lendk_dicI, v_noB_dicI, v_ONew, v_O1, v_OIn, v_oink, v_oik2_f, v_oik2_t, v_oKey_non, v_oKey_int, v_OGet, v_ogk0, v_ogk, v_ogk2, v_OPut, v_opk0, v_opk1, v_opk2, v_opk3, v_noB_dic, v_dT1, v_t1k, v_dT0, v_t0k, v_fSplit, v_fFindT, v_fStarts, v_iEnum, v_enumItems, v_iZip, v_zipItems, v_RaiseF, v_raisx, v_raisk1, v_raisk1_int, v_raisk1_non, v_raisk2, v_isT2n, v_xfk1, v_xfk2a, v_xfk2b, v_inT_str, v_ninT_str, v_inT_non, v_inT_int, v_inT_bl, v_inT_lst, v_ninT_non, v_ninT_int, v_ninT_bl, v_ninT_lst, v_ClearO, v_clro, v_Clear2, v_clr20, v_clr2, v_clr2a, v_clr2b, v_gConsI, v_FldO, v_fldo, v_PutF, v_putfk, v_putfk_exc, v_putk, v_MethO0, v_MethO, v_methOq, v_methok, v_afterO, v_afterO_exc, v_finX_next, v_finX_ret, v_finX_exc, v_gNinU, v_gInU, v_DicS, v_KGet, v_kgk, v_KPut, v_kput0, v_kput1, v_CallS1, v_callS1, v_CallS2, v_callS2q, v_callS2k, v_isImm, v_isDic, v_callS3, v_afterS, v_afterS_exc, v_mkFnX, v_gNinL, v_gInL_bl, v_MkE, v_mkek1, v_mkek2, v_MkE0, v_mke0k, v_IsV, v_isVk, v_Xv, v_xvk, v_dVals_nil, v_dVals, v_dvk, v_dvk_l, v_dvc, v_DicN, v_dnk, v_KGetE, v_kge, v_kgek1, v_KPutA, v_kputA0, v_kputA0_l, v_CallO1, v_cO1q, v_cO1k, v_callO1k, v_ownO, v_own_obj, v_own_dicI, v_CallO2, v_cO2q, v_cO2k, v_callO2k, v_aft2, v_aft2_exc, v_LstO, v_fLstO, v_TupO, v_fTupO, v_ClrT, v_MethI0, v_KGetI, v_afterI, v_CallI2, v_Dct, v_dctk, v_TGet, v_tgk, v_tgk_l, v_TPut, v_tputx, v_tputx_exc, v_tputk, v_tputk0, v_TPutI, v_tputIx, v_AppT, v_appTk, v_appTk2, v_tgek, v_TGetE, v_tgeq, v_isDct, v_KtNew, v_KtIn, v_ktin, v_ktin2, v_KtPut, v_ktp0, v_ktp1, v_ktp2, v_ktp3, v_sLend, v_sLendk_l, v_sLendk_i, v_lendR, v_lendR_exc, v_MethO2, v_mO2q, v_mO2k, v_PutIx, v_putIxk, v_putIx, v_putIxb, v_InsI, v_insI, v_insIb, v_PopI, v_popI, v_CallE, v_callEk, v_IsN, v_isNk, v_gEmp0, v_gEmp1, v_LIdx, v_lxk, v_lxk2, v_S_eq, v_add_S, v_eq_S, v_ne_S, v_items_S, v_gIx_S, v_fSl_S, v_len_S, v_fSplit_S, v_fJoin_sg, v_inT_S, v_ninT_S, v_zfill, v_index16, v_index10, isB_NoneType_int, isB_NoneType_bool, isB_NoneType_str, isB_NoneType_list, isB_NoneType_tuple, isB_NoneType_dict, isB_bool_int, isB_bool_bool, isB_bool_str, isB_bool_list, isB_bool_tuple, isB_bool_dict, isB_int_int, isB_int_bool, isB_int_str, isB_int_list, isB_int_tuple, isB_int_dict, isB_str_int, isB_str_bool, isB_str_str, isB_str_list, isB_str_tuple, isB_str_dict, isB_list_int, isB_list_bool, isB_list_str, isB_list_list, isB_list_tuple, isB_list_dict, isB_tuple_int, isB_tuple_bool, isB_tuple_str, isB_tuple_list, isB_tuple_tuple, isB_tuple_dict, isB_dict_int, isB_dict_bool, isB_dict_str, isB_dict_list, isB_dict_tuple, isB_dict_dict, kind_NoneType, kind_bool, kind_int, kind_str, kind_list, kind_tuple, kind_dict, List.getElem?_cons_zero, List.getElem?_cons_succ, List.getElem?_nil, List.set_cons_zero, List.set_cons_succ, List.length_cons, List.length_nil, List.cons_append, List.nil_append, List.append_nil, List.map_nil, List.map_cons, Nat.reduceAdd, Nat.reduceSub, Nat.reduceMul, Nat.reduceEqDiff, Nat.reduceLeDiff, Nat.zero_add, Nat.add_zero, Bool.not_true, Bool.not_false, Bool.and_true, Bool.true_and, Bool.and_false, Bool.false_and, Bool.or_true, Bool.true_or, Bool.or_false, Bool.false_or, Bool.not_not, Bool.and_self, Bool.or_self, Option.map_some, Option.map_none, decide_true, decide_false, reduceCtorEq, Bool.false_eq_true, List.all_nil, List.all_cons, id_eq, ↓reduceIte, if_true, if_false, beq_self_eq_true, Int.reduceAdd, Int.reduceSub, Int.reduceMul, Int.reduceNeg, Int.reduceLT, Int.reduceLE, Int.reduceEq, Int.reduceNe, Int.reduceToNat, Int.reduceMod, Int.reduceDiv, Int.reducePow, Nat.reducePow, Nat.reduceBEq, Int.toNat_natCast, Int.zero_add, Int.add_zero, Int.sub_zero, ne_eq, not_true_eq_false, not_false_eq_true, and_true, true_and, and_self, Nat.lt_irrefl, Int.natCast_eq_zero, decide_not, eqv_int, List.length_append, List.length_map, Int.cast_ofNat_Int, List.sum_cons, List.sum_nil, ints_map, bools_map, *])
theorem alike_is : Fr_L_alike = aFr := by
  funext n
  induction n with
  | zero => rfl
  | succ n ih =>
    show mkFn 3 2 (den_L_alike (Fr_L_alike n)) = mkFn 3 2 (aDen (aFr n))
    rw [ih]; rfl
theorem alike_ok {b c : Bool} {d : D} (h : d.pl 8 = true) : F_L_alike [.imm b d, .imm c d] = .ok (.imm false (.bl true)) := by
  unfold F_L_alike
  rw [alike_is]
  exact alike_self 8 d 9 b c h (by omega)
theorem draw_ok {ns : List Int} {k m : Int} (h1 : 0 ≤ k) (h2 : k ≤ 1000000000) (h4 : 0 < m) : ∃ z, 0 ≤ z ∧ z < m ∧ ∀ c1 c2 c3, F_L_draw [.imm c1 (.scr ns), .imm c2 (.int k), .imm c3 (.int m)] = .ok (.imm false (.int z)) := by
  by_cases h : ns.length = 0
  · refine ⟨((0 + 1) * 16807 + (k + 3) * (k + 3) * 40009) % 1000000007 * 30011 % 998244353 % m, Int.emod_nonneg _ (by omega), Int.emod_lt_of_pos _ h4, fun c1 c2 c3 => ?_⟩
    have h' : ¬ (0 : Int) < ((0 : Nat) : Int) := by omega
    unfold F_L_draw den_L_draw
    walk_at "ev*"
  · have hp : (0 : Int) < (ns.length : Int) := by omega
    have hl : 0 ≤ k % (ns.length : Int) := Int.emod_nonneg _ (by omega)
    have hl2 : k % (ns.length : Int) < (ns.length : Int) := Int.emod_lt_of_pos _ (by omega)
    obtain ⟨x, hx⟩ : ∃ x, L2.atI ns (k % (ns.length : Int)) = some x := by
      rw [atI_eq hl hl2]
      exact ⟨_, List.getElem?_eq_getElem (by omega)⟩
    refine ⟨((x % 999999937 + 1) * 16807 + (k + 3) * (k + 3) * 40009) % 1000000007 * 30011 % 998244353 % m, Int.emod_nonneg _ (by omega), Int.emod_lt_of_pos _ h4, fun c1 c2 c3 => ?_⟩
    unfold F_L_draw den_L_draw
    walk_at "ev*"
theorem sides_ok {ns : List Int} {k : Int} (h1 : 0 ≤ k) (h2 : k ≤ 100000000) : ∃ w h : Nat, 1 ≤ w ∧ w ≤ 64 ∧ 1 ≤ h ∧ h ≤ 64 ∧ ∀ c1 c2, F_L_sides [.imm c1 (.scr ns), .imm c2 (.int k)] = .ok (.imm false (.tup [.int w, .int h])) := by
  obtain ⟨a, a1, a2, ea⟩ := @draw_ok ns k 6 h1 (by omega) (by omega)
  obtain ⟨b, b1, b2, eb⟩ := @draw_ok ns (k + 1) 6 (by omega) (by omega) (by omega)
  obtain ⟨c, c1, c2, ec⟩ := @draw_ok ns (k + 2) 10 (by omega) (by omega) (by omega)
  obtain ⟨a, rfl⟩ := Int.eq_ofNat_of_zero_le a1
  obtain ⟨b, rfl⟩ := Int.eq_ofNat_of_zero_le b1
  by_cases d1 : c = 0
  · refine ⟨64 - (1 + b) / 2, 1 + (1 + a) % 2, by omega, by omega, by omega, by omega, fun c1 c2 => ?_⟩
    rw [show ((64 - (1 + b) / 2 : Nat) : Int) = 64 - (1 + (b : Int)) / 2 by omega, show ((1 + (1 + a) % 2 : Nat) : Int) = 1 + (1 + (a : Int)) % 2 by omega]
    unfold F_L_sides den_L_sides
    walk_at "ev*"
  · by_cases d2 : c = 1
    · refine ⟨1 + (1 + b) % 2, 64 - (1 + a) / 2, by omega, by omega, by omega, by omega, fun c1 c2 => ?_⟩
      rw [show ((64 - (1 + a) / 2 : Nat) : Int) = 64 - (1 + (a : Int)) / 2 by omega, show ((1 + (1 + b) % 2 : Nat) : Int) = 1 + (1 + (b : Int)) % 2 by omega]
      have d3 : ¬ (1 : Int) = 0 := by omega
      unfold F_L_sides den_L_sides
      walk_at "ev*"
    · refine ⟨1 + a, 1 + b, by omega, by omega, by omega, by omega, fun c1 c2 => ?_⟩
      rw [show ((1 + a : Nat) : Int) = 1 + (a : Int) by omega, show ((1 + b : Nat) : Int) = 1 + (b : Int) by omega]
      unfold F_L_sides den_L_sides
      walk_at "ev*"
theorem rows_ok {ns : List Int} {k : Int} {w h : Nat} (h1 : 0 ≤ k) (h2 : k ≤ 100000000) (w1 : 1 ≤ w) (w2 : w ≤ 64) (v1 : 1 ≤ h) (v2 : h ≤ 64) : ∃ rs, Rect rs w h ∧ F_L_rows [.imm false (.scr ns), .imm false (.int k), .imm false (.int w), .imm false (.int h)] = .ok (.lstI (rs.map rowD)) := by
  obtain ⟨a, a1, a2, ea⟩ := @draw_ok ns k 4 h1 (by omega) (by omega)
  obtain ⟨m, m1, em⟩ : ∃ m : Int, 0 < m ∧ L2.atI [D.int 16, D.int 24, D.int 40, D.int 300] a = some (.int m) := by
    have : a = 0 ∨ a = 1 ∨ a = 2 ∨ a = 3 := by omega
    rcases this with rfl | rfl | rfl | rfl
    · exact ⟨16, by omega, v_at0⟩
    · exact ⟨24, by omega, v_at1⟩
    · exact ⟨40, by omega, v_at2⟩
    · exact ⟨300, by omega, v_at3⟩
  have inner : ∀ (y : Nat) (t5 t9 t8 : T), y < h → ∃ r : List Cell, r.length = w ∧ (∀ c ∈ r, okc c) ∧ ∃ t8' t9', forL (dgName 8) bd_L_rows_1 false (rangeD 0 w) [.imm false (.scr ns), .imm false (.int k), .imm false (.int w), .imm false (.int h), .imm false (.int m), t5, .imm false (.int y), .lstI [], t8, t9] =
      .next [.imm false (.scr ns), .imm false (.int k), .imm false (.int w), .imm false (.int h), .imm false (.int m), t5, .imm false (.int y), .lstI (r.map cellD), t8', t9'] := by
    intro y t5 t9 t8 hy
    obtain ⟨ρ', e, r, hr, hok, t8', t9', rfl⟩ := forL_range (dg := dgName 8) (body := bd_L_rows_1) (b := false) (lo := 0) (n := w) (ρ := [.imm false (.scr ns), .imm false (.int k), .imm false (.int w), .imm false (.int h), .imm false (.int m), t5, .imm false (.int y), .lstI [], t8, t9])
      (P := fun i ρ => ∃ r : List Cell, r.length = i ∧ (∀ c ∈ r, okc c) ∧ ∃ t8 t9, ρ = [.imm false (.scr ns), .imm false (.int k), .imm false (.int w), .imm false (.int h), .imm false (.int m), t5, .imm false (.int y), .lstI (r.map cellD), t8, t9])
      ⟨[], rfl, fun c hc => by simp at hc, t8, t9, rfl⟩ fun i ρ hi ⟨r, hr, hok, t8, t9, eρ⟩ => by
        subst eρ
        have q : (y : Int) * (w : Int) ≤ 64 * 64 := Int.mul_le_mul (by omega) (by omega) (by omega) (by omega)
        have q2 : 0 ≤ (y : Int) * (w : Int) := Int.mul_nonneg (by omega) (by omega)
        obtain ⟨z, z1, z2, ez⟩ := @draw_ok ns (k + 3 + (y : Int) * (w : Int) + (i : Int)) m (by omega) (by omega) m1
        obtain ⟨z, rfl⟩ := Int.eq_ofNat_of_zero_le z1
        have hl : (r.map cellD).length < 16777216 := by simp; omega
        clear em ea q q2
        by_cases hz : 15 < (z : Int)
        · refine ⟨_, [.imm false (.scr ns), .imm false (.int k), .imm false (.int w), .imm false (.int h), .imm false (.int m), t5, .imm false (.int y), .lstI (r.map cellD ++ [.non]), .imm false (.int (0 + i)), .imm false .non], rfl, .inl ?_, r ++ [none], by simp [hr], fun c hc => ?_, _, _, by rw [List.map_append]; rfl⟩
          · unfold bd_L_rows_1
            walk_at "ev*"
          · rcases List.mem_append.mp hc with hc | hc
            · exact hok c hc
            · rw [List.mem_singleton.mp hc]; exact okc_none
        · refine ⟨_, [.imm false (.scr ns), .imm false (.int k), .imm false (.int w), .imm false (.int h), .imm false (.int m), t5, .imm false (.int y), .lstI (r.map cellD ++ [.int z]), .imm false (.int (0 + i)), .imm false (.int z)], rfl, .inl ?_, r ++ [some z], by simp [hr], fun c hc => ?_, _, _, by rw [List.map_append]; rfl⟩
          · unfold bd_L_rows_1
            walk_at "ev*"
          · rcases List.mem_append.mp hc with hc | hc
            · exact hok c hc
            · rw [List.mem_singleton.mp hc]
              show z < 16
              omega
    exact ⟨r, hr, hok, t8', t9', e⟩
  obtain ⟨ρ', e, rs, hrs, hok, t6, t7, t8, t9, rfl⟩ := forL_range (dg := dgName 6) (body := bd_L_rows_2) (b := false) (lo := 0) (n := h) (ρ := [.imm false (.scr ns), .imm false (.int k), .imm false (.int w), .imm false (.int h), .imm false (.int m), .lstI [], .dead, .dead, .dead, .dead])
    (P := fun i ρ => ∃ rs : List (List Cell), rs.length = i ∧ (∀ r ∈ rs, r.length = w ∧ ∀ c ∈ r, okc c) ∧ ∃ t6 t7 t8 t9, ρ = [.imm false (.scr ns), .imm false (.int k), .imm false (.int w), .imm false (.int h), .imm false (.int m), .lstI (rs.map rowD), t6, t7, t8, t9])
    ⟨[], rfl, fun c hc => by simp at hc, _, _, _, _, rfl⟩ fun i ρ hi ⟨rs, hrs, hok, t6, t7, t8, t9, eρ⟩ => by
      subst eρ
      obtain ⟨r, hr, hc, t8', t9', e⟩ := inner i (.lstI (rs.map rowD)) t9 t8 hi
      have hl : (rs.map rowD).length < 16777216 := by simp; omega
      have e' : D.lst (r.map cellD) = rowD r := rfl
      refine ⟨_, [.imm false (.scr ns), .imm false (.int k), .imm false (.int w), .imm false (.int h), .imm false (.int m), .lstI (rs.map rowD ++ [rowD r]), .imm false (.int i), .imm false (rowD r), t8', t9'], rfl, .inl ?_, rs ++ [r], by simp [hrs], fun c hc' => ?_, _, _, _, _, by rw [List.map_append]; rfl⟩
      · clear inner em ea
        unfold bd_L_rows_2
        walk_at "ev*"
      · rcases List.mem_append.mp hc' with hc' | hc'
        · exact hok c hc'
        · rw [List.mem_singleton.mp hc']; exact ⟨hr, hc⟩
  refine ⟨rs, ⟨hrs, hok, v1, w1, v2, w2⟩, ?_⟩
  clear inner
  unfold F_L_rows den_L_rows
  walk_at "ev*"
theorem great2_ok {ns : List Int} {k m : Int} (h1 : 0 ≤ k) (h2 : k ≤ 1000000000) (h4 : 0 < m) : ∃ z, 0 ≤ z ∧ z < m ∧ ∀ c1 c2 c3, F_L_great [.imm c1 (.scr ns), .imm c2 (.int k), .imm c3 (.int m)] = .ok (.imm false (.int z)) := by
  by_cases h : ns.length = 0
  · refine ⟨(0 % m * 48271 + (k + 1) * (k + 1) * 2654435761) % m, Int.emod_nonneg _ (by omega), Int.emod_lt_of_pos _ h4, fun c1 c2 c3 => ?_⟩
    have h' : ¬ (0 : Int) < ((0 : Nat) : Int) := by omega
    unfold F_L_great den_L_great
    walk_at "ev*"
  · have hp : (0 : Int) < (ns.length : Int) := by omega
    have hl : 0 ≤ k % (ns.length : Int) := Int.emod_nonneg _ (by omega)
    have hl2 : k % (ns.length : Int) < (ns.length : Int) := Int.emod_lt_of_pos _ (by omega)
    obtain ⟨x, hx⟩ : ∃ x, L2.atI ns (k % (ns.length : Int)) = some x := by
      rw [atI_eq hl hl2]
      exact ⟨_, List.getElem?_eq_getElem (by omega)⟩
    refine ⟨(x % m * 48271 + (k + 1) * (k + 1) * 2654435761) % m, Int.emod_nonneg _ (by omega), Int.emod_lt_of_pos _ h4, fun c1 c2 c3 => ?_⟩
    unfold F_L_great den_L_great
    walk_at "ev*"
theorem packed_ok {rs : List (List Cell)} {w h : Nat} (R : Rect rs w h) : F_L_packed [.imm false (rowsD rs)] = .ok (.imm false (picD w rs)) := by
  have inner : ∀ (r : List Cell) (t1 t2 t6 : T), r.length = w → (∀ c ∈ r, okc c) → ∃ t6', forL (dgName 6) bd_L_packed_1 false (r.map cellD).reverse [.imm false (rowsD rs), t1, t2, .imm false (rowD r), .imm false (.int 0), .imm false (.int 0), t6] =
      .next [.imm false (rowsD rs), t1, t2, .imm false (rowD r), .imm false (.int (pnt r)), .imm false (.int (msk r)), t6'] := by
    intro r t1 t2 t6 hr hok
    rw [← List.map_reverse]
    obtain ⟨ρ', e, t6', h2⟩ := forL_fold (f := cellD) (g := fun (s : Nat × Nat) c => (s.1 * 16 + clr c, s.2 * 2 + c.isSome.toNat)) (dg := dgName 6) (body := bd_L_packed_1) (b := false)
      (R := fun s ρ => ∃ t6, ρ = [.imm false (rowsD rs), t1, t2, .imm false (rowD r), .imm false (.int s.1), .imm false (.int s.2), t6]) r.reverse (0, 0) [.imm false (rowsD rs), t1, t2, .imm false (rowD r), .imm false (.int 0), .imm false (.int 0), t6] ⟨t6, rfl⟩ fun c s ρ hc ⟨t6, eρ⟩ => by
        subst eρ
        cases c with
        | none =>
          refine ⟨_, [.imm false (rowsD rs), t1, t2, .imm false (rowD r), .imm false (.int ((s.1 : Int) * 16)), .imm false (.int ((s.2 : Int) * 2)), .imm false .non], rfl, .inl ?_, .imm false .non, by simp [clr]⟩
          unfold bd_L_packed_1 cellD
          walk_at "ev*"
        | some n =>
          refine ⟨_, [.imm false (rowsD rs), t1, t2, .imm false (rowD r), .imm false (.int ((s.1 : Int) * 16 + (n : Int))), .imm false (.int ((s.2 : Int) * 2 + 1)), .imm false (.int n)], rfl, .inl ?_, .imm false (.int n), by simp [clr]⟩
          unfold bd_L_packed_1 cellD
          walk_at "ev*"
    have k : ∀ (l : List Cell) (p m : Nat), l.foldl (fun (s : Nat × Nat) c => (s.1 * 16 + clr c, s.2 * 2 + c.isSome.toNat)) (p, m) = (l.foldl (fun (p : Nat) c => p * 16 + clr c) p, l.foldl (fun (p : Nat) c => p * 2 + c.isSome.toNat) m) := by
      intro l
      induction l with
      | nil => intro p m; rfl
      | cons c l ih => intro p m; exact ih _ _
    rw [k, pnt_foldl, msk_foldl] at h2
    exact ⟨t6', by rw [e, h2]⟩
  obtain ⟨ρ', e, t3, t4, t5, t6, h2⟩ := forL_take (f := rowD) (xs := rs) (dg := dgName 3) (body := bd_L_packed_2) (b := false) (ρ := [.imm false (rowsD rs), .lstI [], .lstI [], .dead, .dead, .dead, .dead])
    (P := fun s ρ => ∃ t3 t4 t5 t6, ρ = [.imm false (rowsD rs), .lstI (s.map fun r => .int (pnt r)), .lstI (s.map fun r => .int (msk r)), t3, t4, t5, t6]) ⟨_, _, _, _, rfl⟩ fun s q r ρ hr ⟨t3, t4, t5, t6, eρ⟩ => by
      subst eρ
      have hm : r ∈ rs := by rw [hr]; simp
      have hl : s.length < 64 := by
        have := R.h64
        rw [← R.len, hr] at this
        simp at this
        omega
      obtain ⟨t6', e⟩ := inner r (.lstI (s.map fun r => .int (pnt r))) (.lstI (s.map fun r => .int (msk r))) t6 (R.row r hm).1 (R.row r hm).2
      have l1 : (s.map fun r => D.int (pnt r)).length < 16777216 := by simp; omega
      have l2 : (s.map fun r => D.int (msk r)).length < 16777216 := by simp; omega
      refine ⟨_, [.imm false (rowsD rs), .lstI ((s.map fun r => D.int (pnt r)) ++ [.int (pnt r)]), .lstI ((s.map fun r => D.int (msk r)) ++ [.int (msk r)]), .imm false (rowD r), .imm false (.int (pnt r)), .imm false (.int (msk r)), t6'], rfl, .inl ?_, _, _, _, _, by rw [List.map_append, List.map_append]; rfl⟩
      clear inner hr hm
      unfold bd_L_packed_2
      unfold rowD at *
      walk_at "ev*"
  subst h2
  obtain ⟨r0, rs', hrs⟩ : ∃ r0 rs', rs = r0 :: rs' := by
    have := R.h1
    have := R.len
    cases rs with
    | nil => simp at *; omega
    | cons r0 rs' => exact ⟨_, _, rfl⟩
  have hw : r0.length = w := (R.row r0 (by rw [hrs]; simp)).1
  have h0 : L2.atI (rs.map rowD) 0 = some (rowD r0) := by rw [hrs]; exact v_at0
  have hl : D.len? (rowD r0) = some w := by
    unfold rowD
    rw [v_len_lst, List.length_map, hw]
  clear inner hrs hw
  unfold F_L_packed den_L_packed
  unfold rowsD picD at *
  walk_at "ev*"
theorem is_cell_ok {c : Bool} {x : Cell} (h : okc x) : F_is_cell [.imm c (cellD x)] = .ok (.imm false (.bl true)) := by
  cases x with
  | none =>
    unfold F_is_cell den_is_cell cellD
    walk_at "ev"
  | some n =>
    have h1 : n < 16 := h
    have e : ∀ c, F_is_whole [.imm c (.int n)] = .ok (.imm false (.bl true)) := fun c => by
      unfold F_is_whole den_is_whole
      walk_at "ev"
    have hd : decide ((n : Int) < 16) = true := decide_eq_true (by omega)
    unfold F_is_cell den_is_cell cellD
    walk_at "ev*"
theorem is_row_ok {r : List Cell} {w : Nat} (hl : r.length = w) (h : ∀ c ∈ r, okc c) (c c' : Bool) : F_is_row [.imm c (rowD r), .imm c' (.int w)] = .ok (.imm false (.bl true)) := by
  obtain ⟨ρ', e, h2⟩ := compL_mapf (dg := dgName 2) (dt := dtYes) (de := dFr (dCall F_is_cell [] (dCons (dVar 2) dNil))) (own := [2]) (b := c) (f := cellD) (g := fun _ => D.bl true)
      (P := fun ρ => ρ = [.imm c (rowD r), .imm c' (.int w), .dead]) r [.imm c (rowD r), .imm c' (.int w), .dead] rfl fun x ρ hx eρ => by
        subst eρ
        have q := is_cell_ok (c := c) (h x hx)
        refine ⟨_, _, .imm false (.bl true), [.imm c (rowD r), .imm c' (.int w), .imm c (cellD x)], rfl, rfl, ?_, rfl, rfl⟩
        clear hl h
        walk_at "ev*"
  subst h2
  have eb := all_bl r
  have ea := all_true r.length
  have el : (rowD r).len? = some w := by unfold rowD; rw [v_len_lst, List.length_map, hl]
  clear hl h
  unfold F_is_row den_is_row
  unfold rowD at *
  walk_at "ev*"
theorem row_bits_ok {r : List Cell} (hl : r.length ≤ 64) (h : ∀ c ∈ r, okc c) (c : Bool) : F_row_bits [.imm c (rowD r)] = .ok (.imm false (.tup [.int (pnt r), .int (msk r)])) := by
  obtain ⟨ρ', e, t3, h2⟩ := forL_range (dg := dgName 3) (body := bd_row_bits_1) (b := false) (lo := 0) (n := r.length) (ρ := [.imm c (rowD r), .imm false (.int 0), .imm false (.int 0), .dead])
    (P := fun x ρ => ∃ t3, ρ = [.imm c (rowD r), .imm false (.int (pnt (r.take x))), .imm false (.int (msk (r.take x))), t3]) ⟨.dead, by simp [pnt, msk]⟩ fun x ρ hx ⟨t3, eρ⟩ => by
      subst eρ
      obtain ⟨z, hz⟩ : ∃ z, r[x]? = some z := ⟨_, List.getElem?_eq_getElem hx⟩
      have et : r.take (x + 1) = r.take x ++ [z] := by rw [List.take_succ, hz]; rfl
      have lt : (r.take x).length = x := by simp; omega
      have g := gIx_row (c := c) hz
      have p1 := pnt_lt (w := 64) (fun c hc => h c (List.mem_of_mem_take hc)) (show (r.take x).length ≤ 64 by omega)
      have okz : okc z := h z (List.mem_of_getElem? hz)
      have q1 := pnt_or (l := r.take x) fun c hc => h c (List.mem_of_mem_take hc)
      have q2 := msk_or (l := r.take x)
      rw [lt] at q1 q2
      rw [et]
      cases z with
      | none =>
        rw [pnt_hole, msk_hole]
        refine ⟨_, [.imm c (rowD r), .imm false (.int (pnt (r.take x))), .imm false (.int (msk (r.take x))), .imm false (.int x)], by rw [Int.zero_add]; rfl, .inl ?_, _, rfl⟩
        replace g : gIx c (rowD r) (x : Int) = some (.imm false .non) := g
        clear et lt hz p1 q1 q2
        unfold bd_row_bits_1
        walk_at "ev*"
      | some n =>
        have hn : n < 16 := okz
        replace g : gIx c (rowD r) (x : Int) = some (.imm false (.int n)) := g
        replace q1 := q1 n
        replace q2 := q2 n
        refine ⟨_, [.imm c (rowD r), .imm false (.int (pnt (r.take x ++ [some n]))), .imm false (.int (msk (r.take x ++ [some n]))), .imm false (.int x)], by rw [Int.zero_add]; rfl, .inl ?_, _, rfl⟩
        clear et lt hz okz p1
        generalize pnt (r.take x ++ [some n]) = A at *
        generalize msk (r.take x ++ [some n]) = B at *
        unfold bd_row_bits_1
        walk_at "ev*"
  rw [List.take_length] at h2
  subst h2
  have el : (rowD r).len? = some r.length := by unfold rowD; rw [v_len_lst, List.length_map]
  unfold F_row_bits den_row_bits
  walk_at "ev*"
theorem pictured_ok {rs : List (List Cell)} {w h : Nat} (R : Rect rs w h) (c : Bool) : F_pictured [.imm c (rowsD rs)] = .ok (.imm false (picD w rs)) := by
  have l64 : rs.length ≤ 64 := by rw [R.len]; exact R.h64
  have l1 : 1 ≤ rs.length := by rw [R.len]; exact R.h1
  have w64 := R.w64
  have w1 := R.w1
  obtain ⟨r0, hr0⟩ : ∃ r0, rs[0]? = some r0 := ⟨_, List.getElem?_eq_getElem (by omega)⟩
  have g0 := gIx_rows (c := c) hr0
  have gl : (rowD r0).len? = some w := by unfold rowD; rw [v_len_lst, List.length_map, (R.row r0 (List.mem_of_getElem? hr0)).1]
  obtain ⟨ρ', e1, t2, h2⟩ := forL_range (dg := dgName 2) (body := bd_pictured_1) (b := false) (lo := 0) (n := rs.length) (ρ := [.imm c (rowsD rs), .imm false (.int w), .dead, .dead, .dead, .dead, .dead])
    (P := fun i ρ => ∃ t2, ρ = [.imm c (rowsD rs), .imm false (.int w), t2, .dead, .dead, .dead, .dead]) ⟨.dead, rfl⟩ fun i ρ hi ⟨t2, eρ⟩ => by
      subst eρ
      obtain ⟨r, hr⟩ : ∃ r, rs[i]? = some r := ⟨_, List.getElem?_eq_getElem hi⟩
      have g := gIx_rows (c := c) hr
      have q := is_row_ok (R.row r (List.mem_of_getElem? hr)).1 (R.row r (List.mem_of_getElem? hr)).2 c false
      refine ⟨_, [.imm c (rowsD rs), .imm false (.int w), .imm false (.int i), .dead, .dead, .dead, .dead], by rw [Int.zero_add]; rfl, .inl ?_, _, rfl⟩
      clear hr gl g0 hr0
      unfold bd_pictured_1
      walk_at "ev*"
  subst h2
  obtain ⟨ρ', e2, h2⟩ := compL_mapf (dg := dgName 4) (dt := dtYes) (de := dFr (dCall F_row_bits [] (dCons (dVar 4) dNil))) (own := [4]) (b := c) (f := rowD) (g := fun r => D.tup [.int (pnt r), .int (msk r)])
      (P := fun ρ => ρ = [.imm c (rowsD rs), .imm false (.int w), t2, .dead, .dead, .dead, .dead]) rs [.imm c (rowsD rs), .imm false (.int w), t2, .dead, .dead, .dead, .dead] rfl fun r ρ hr eρ => by
        subst eρ
        have q := row_bits_ok (by rw [(R.row r hr).1]; exact w64) (R.row r hr).2 c
        refine ⟨_, _, .imm false (.tup [.int (pnt r), .int (msk r)]), [.imm c (rowsD rs), .imm false (.int w), t2, .dead, .imm c (rowD r), .dead, .dead], rfl, rfl, ?_, rfl, rfl⟩
        clear e1 hr0 g0 gl
        walk_at "ev*"
  subst h2
  have pick : ∀ (k : Int) (f : List Cell → D) (t5 : T), (∀ r, gIx false (.tup [.int (pnt r), .int (msk r)]) k = some (.imm false (f r))) → compL (dgName 6) dtYes (dIxV 6 (dC (.int k))) [6] false (rs.map fun r => D.tup [.int (pnt r), .int (msk r)]) [.imm c (rowsD rs), .imm false (.int w), t2, .imm false (.lst (rs.map fun r => D.tup [.int (pnt r), .int (msk r)])), .dead, t5, .dead] =
      .ok (rs.map f) [.imm c (rowsD rs), .imm false (.int w), t2, .imm false (.lst (rs.map fun r => D.tup [.int (pnt r), .int (msk r)])), .dead, t5, .dead] := by
    intro k f t5 hk
    obtain ⟨ρ', e, h2⟩ := compL_mapf (dg := dgName 6) (dt := dtYes) (de := dIxV 6 (dC (.int k))) (own := [6]) (b := false) (f := fun r => D.tup [.int (pnt r), .int (msk r)]) (g := f)
      (P := fun ρ => ρ = [.imm c (rowsD rs), .imm false (.int w), t2, .imm false (.lst (rs.map fun r => D.tup [.int (pnt r), .int (msk r)])), .dead, t5, .dead]) rs [.imm c (rowsD rs), .imm false (.int w), t2, .imm false (.lst (rs.map fun r => D.tup [.int (pnt r), .int (msk r)])), .dead, t5, .dead] rfl fun r ρ hr eρ => by
        subst eρ
        have q := hk r
        refine ⟨_, _, .imm false (f r), [.imm c (rowsD rs), .imm false (.int w), t2, .imm false (.lst (rs.map fun r => D.tup [.int (pnt r), .int (msk r)])), .dead, t5, .imm false (.tup [.int (pnt r), .int (msk r)])], rfl, rfl, ?_, rfl, rfl⟩
        clear e1 e2 hr0 g0 gl hk
        walk_at "ev*"
    rw [e, h2]
  have k0 := fun t5 => pick 0 (fun r => .int (pnt r)) t5 fun r => rfl
  have k1 := fun t5 => pick 1 (fun r => .int (msk r)) t5 fun r => rfl
  have er : (rowsD rs).len? = some rs.length := by unfold rowsD; rw [v_len_lst, List.length_map]
  clear pick
  have ei : ∀ ρ, itemsOf (.imm c (rowsD rs)) ρ = .ok (c, rs.map rowD) ρ := fun _ => rfl
  have kr : (rowD r0).kind = some "list" := rfl
  have kr2 : (rowsD rs).kind = some "list" := rfl
  have gi : gIx c (rowsD rs) 0 = some (.imm c (rowD r0)) := g0
  clear g0 hr0
  unfold F_pictured den_pictured
  unfold picD
  walk_at "ev*"
theorem wh_int (b : Bool) (i : Int) : F_is_whole [.imm b (.int i)] = .ok (.imm false (.bl true)) := by
  unfold F_is_whole den_is_whole
  walk_at "ev"
theorem wh_bl (b c : Bool) : F_is_whole [.imm b (.bl c)] = .ok (.imm false (.bl false)) := by
  unfold F_is_whole den_is_whole
  walk_at "ev"
theorem wh_str (b : Bool) (s : Str) : F_is_whole [.imm b (.str s)] = .ok (.imm false (.bl false)) := by
  unfold F_is_whole den_is_whole
  walk_at "ev"
theorem wh_lst (b : Bool) (s : List D) : F_is_whole [.imm b (.lst s)] = .ok (.imm false (.bl false)) := by
  unfold F_is_whole den_is_whole
  walk_at "ev"
theorem wh_tup (b : Bool) (s : List D) : F_is_whole [.imm b (.tup s)] = .ok (.imm false (.bl false)) := by
  unfold F_is_whole den_is_whole
  walk_at "ev"
theorem wh_dic (b : Bool) (k : List Key) (s : List D) : F_is_whole [.imm b (.dic k s)] = .ok (.imm false (.bl false)) := by
  unfold F_is_whole den_is_whole
  walk_at "ev"
/-! plain things -/
def Pk : D → Bool
  | .int _ | .bl _ | .non | .str _ | .lst _ | .tup _ | .dic _ _ => true
  | _ => false
def pcell : D → Bool
  | .non => true
  | .int i => decide (0 ≤ i) && decide (i < 16)
  | _ => false
theorem is_cellD {d : D} (h : Pk d = true) (c : Bool) : F_is_cell [.imm c d] = .ok (.imm false (.bl (pcell d))) := by
  cases d with
  | non => unfold F_is_cell den_is_cell pcell; walk_at "ev"
  | bl i =>
    have e := fun c => wh_bl c i
    unfold F_is_cell den_is_cell pcell; walk_at "ev*"
  | int i =>
    have e := fun c => wh_int c i
    by_cases h0 : 0 ≤ i
    · have h0' : decide (0 ≤ i) = true := decide_eq_true h0
      unfold F_is_cell den_is_cell pcell
      walk_at "ev*"
      first | done | rfl | simp
    · have h0' : decide (0 ≤ i) = false := decide_eq_false h0
      unfold F_is_cell den_is_cell pcell
      walk_at "ev*"
      first | done | rfl | simp
  | str s =>
    have e := fun c => wh_str c s
    unfold F_is_cell den_is_cell pcell; walk_at "ev*"
  | lst s =>
    have e := fun c => wh_lst c s
    unfold F_is_cell den_is_cell pcell; walk_at "ev*"
  | tup s =>
    have e := fun c => wh_tup c s
    unfold F_is_cell den_is_cell pcell; walk_at "ev*"
  | dic k s =>
    have e := fun c => wh_dic c k s
    unfold F_is_cell den_is_cell pcell; walk_at "ev*"
  | _ => simp [Pk] at h
theorem lcell_is {d : D} (h : Pk d = true) (c : Bool) : F_L_cell_is [.imm c d] = .ok (.imm false (.bl (pcell d))) := by
  cases d with
  | int i =>
    have e15 : decide (i ≤ 15) = decide (i < 16) := by
      by_cases h1 : i < 16
      · rw [decide_eq_true h1, decide_eq_true (by omega)]
      · rw [decide_eq_false h1, decide_eq_false (by omega)]
    by_cases h0 : 0 ≤ i
    · have h0' : decide (0 ≤ i) = true := decide_eq_true h0
      unfold F_L_cell_is den_L_cell_is pcell
      walk_at "ev*"
      first | done | rfl | simp [e15]
    · have h0' : decide (0 ≤ i) = false := decide_eq_false h0
      unfold F_L_cell_is den_L_cell_is pcell
      walk_at "ev*"
      first | done | rfl | simp
  | non => unfold F_L_cell_is den_L_cell_is pcell; walk_at "ev"
  | bl i => unfold F_L_cell_is den_L_cell_is pcell; walk_at "ev"
  | str s => unfold F_L_cell_is den_L_cell_is pcell; walk_at "ev"
  | lst s => unfold F_L_cell_is den_L_cell_is pcell; walk_at "ev"
  | tup s => unfold F_L_cell_is den_L_cell_is pcell; walk_at "ev"
  | dic k s => unfold F_L_cell_is den_L_cell_is pcell; walk_at "ev"
  | _ => simp [Pk] at h
/-- a thing as a row -/
def Rw (m : Nat) (d : D) : Prop := Pk d = true ∧ ∀ cs, d = .lst cs → cs.length ≤ m ∧ ∀ c ∈ cs, Pk c = true
def prow (w : Nat) : D → Bool
  | .lst cs => decide (cs.length = w) && cs.all pcell
  | _ => false
theorem all_bls (l : List Bool) : D.bools (l.map D.bl) = some l := bools_map l
theorem is_rowD {d : D} {m : Nat} (R : Rw m d) (hm : m ≤ 1000) (w : Nat) (c c' : Bool) : F_is_row [.imm c d, .imm c' (.int w)] = .ok (.imm false (.bl (prow w d))) := by
  obtain ⟨hk, hc⟩ := R
  cases d with
  | lst cs =>
    obtain ⟨hl, hp⟩ := hc cs rfl
    have el : (D.lst cs).len? = some cs.length := v_len_lst
    by_cases hw : cs.length = w
    · subst hw
      obtain ⟨ρ', e, h2⟩ := compL_map (dg := dgName 2) (dt := dtYes) (de := dFr (dCall F_is_cell [] (dCons (dVar 2) dNil))) (own := [2]) (b := c) (f := fun d => D.bl (pcell d)) (ds := cs)
          (P := fun ρ => ρ = [.imm c (.lst cs), .imm c' (.int (cs.length : Nat)), .dead]) rfl fun x ρ hx eρ => by
            subst eρ
            have q := is_cellD (hp x hx) c
            refine ⟨_, _, .imm false (.bl (pcell x)), [.imm c (.lst cs), .imm c' (.int (cs.length : Nat)), .imm c x], rfl, rfl, ?_, rfl, rfl⟩
            clear hp hl hc hk el hx hm
            generalize (cs.length : Nat) = L at *
            walk_at "ev*"
      subst h2
      have eb : D.bools (cs.map fun d => D.bl (pcell d)) = some (cs.map pcell) := by rw [show (cs.map fun d => D.bl (pcell d)) = (cs.map pcell).map D.bl by simp]; exact all_bls _
      have ep : prow cs.length (.lst cs) = cs.all pcell := by simp [prow]
      have ea : (cs.map pcell).all id = cs.all pcell := by simp [Function.comp_def]
      rw [ep]
      clear hp hl hc hk hm ep
      generalize (cs.map fun d => D.bl (pcell d)) = BB at *
      generalize cs.map pcell = CC at *
      generalize cs.all pcell = QQ at *
      unfold F_is_row den_is_row
      walk_at "ev*"
      first | done | rfl
    · have hw2 : ¬ (cs.length : Int) = (w : Int) := by omega
      have ep : prow w (.lst cs) = false := by simp [prow, hw]
      rw [ep]
      clear hp hc hk ep
      unfold F_is_row den_is_row
      walk_at "ev*"
      first | done | rfl
  | non => clear hc; unfold F_is_row den_is_row prow; walk_at "ev*"
  | bl i => clear hc; unfold F_is_row den_is_row prow; walk_at "ev*"
  | int i => clear hc; unfold F_is_row den_is_row prow; walk_at "ev*"
  | str s => clear hc; unfold F_is_row den_is_row prow; walk_at "ev*"
  | tup s => clear hc; unfold F_is_row den_is_row prow; walk_at "ev*"
  | dic k s => clear hc; unfold F_is_row den_is_row prow; walk_at "ev*"
  | _ => simp [Pk] at hk
/-! the first fault of what is told as rows: none, or with the row's number or without -/
def rD : Option Nat → D
  | none => .non
  | some i => .int i
def flC (rows : List D) (n : Nat) : Option (Option Nat) := if n < 1 ∨ 64 < n then some (some 0) else (rows.findIdx? fun r => !prow n r).map some
def flR (rows : List D) : D → Option (Option Nat)
  | .lst c0 => flC rows c0.length
  | _ => some (some 0)
def flL (rows : List D) : Option (Option Nat) := if rows.length < 1 ∨ 64 < rows.length then some none else flR rows (rows.headD .non)
def fl04 : D → Option (Option Nat)
  | .lst rows => flL rows
  | _ => some none
/-- what may be told as rows -/
def Ps (m : Nat) (d : D) : Prop := Pk d = true ∧ ∀ rows, d = .lst rows → rows.length ≤ m ∧ ∀ r ∈ rows, Rw m r
theorem findIdx_cases {α : Type} (p : α → Bool) (xs : List α) : (xs.findIdx? p = none ∧ ∀ x ∈ xs, p x = false) ∨ ∃ j, xs.findIdx? p = some j ∧ ∃ hj : j < xs.length, p xs[j] = true ∧ ∀ i (hi : i < j), p (xs[i]'(Nat.lt_trans hi hj)) = false := by
  cases h : xs.findIdx? p with
  | none => exact .inl ⟨rfl, List.findIdx?_eq_none_iff.mp h⟩
  | some j =>
    obtain ⟨hj, h1, h2⟩ := List.findIdx?_eq_some_iff_getElem.mp h
    exact .inr ⟨j, rfl, hj, h1, fun i hi => by simpa using h2 i hi⟩
theorem itm_imm (c : Bool) (d : D) : ∃ c', itm c d = .imm c' d := by
  cases d <;> exact ⟨_, rfl⟩
theorem gIx_ds {c : Bool} {ds : List D} {i : Nat} (hi : i < ds.length) : ∃ c', gIx c (.lst ds) (i : Int) = some (.imm c' ds[i]) ∧ itm c ds[i] = .imm c' ds[i] := by
  obtain ⟨c', ec⟩ := itm_imm c ds[i]
  refine ⟨c', ?_, ec⟩
  have e : L2.atI ds (i : Int) = some ds[i] := by rw [atI_eq (by omega) (by omega), Int.toNat_natCast, List.getElem?_eq_getElem hi]
  show (L2.atI ds (i : Int)).map (itm c) = _
  rw [e]
  show some (itm c ds[i]) = _
  rw [ec]
def xPic (r : Option Nat) : Ex := ⟨7, [("row" : PySem.Str)], [rD r]⟩
theorem pictured_bad {d : D} {m : Nat} (P : Ps m d) (hm : m ≤ 1000) {r : Option Nat} (h : fl04 d = some r) (c : Bool) : F_pictured [.imm c d] = .exc (xPic r) := by
  obtain ⟨hk, hc⟩ := P
  cases d with
  | lst rows =>
    obtain ⟨hl, hp⟩ := hc rows rfl
    have el : (D.lst rows).len? = some rows.length := v_len_lst
    replace h : flL rows = some r := h
    unfold flL at h
    by_cases h0 : rows.length < 1 ∨ 64 < rows.length
    · rw [if_pos h0] at h
      cases h
      unfold xPic rD
      by_cases h1 : (1 : Int) ≤ (rows.length : Int)
      · have h2 : ¬ (rows.length : Int) ≤ 64 := by omega
        clear hp hc hk h0 hl hm
        unfold F_pictured den_pictured
        walk_at "ev*"
        first | done | rfl
      · clear hp hc hk h0 hl hm
        unfold F_pictured den_pictured
        walk_at "ev*"
        first | done | rfl
    · rw [if_neg h0] at h
      have h1 : (1 : Int) ≤ (rows.length : Int) := by omega
      have h2 : (rows.length : Int) ≤ 64 := by omega
      have hlen : 0 < rows.length := by omega
      obtain ⟨cz, g0, ez⟩ := gIx_ds (c := c) hlen
      obtain ⟨r0, hr0⟩ : ∃ r0, r0 = rows[0] := ⟨_, rfl⟩
      replace g0 : gIx c (.lst rows) 0 = some (.imm cz r0) := by rw [hr0]; exact g0
      clear ez
      have R0 : Rw m r0 := by rw [hr0]; exact hp _ (List.getElem_mem hlen)
      have hcons : ∃ tl, rows = r0 :: tl := by
        cases rows with
        | nil => simp at hlen
        | cons a tl => exact ⟨tl, by rw [hr0]; rfl⟩
      obtain ⟨tl, etl⟩ := hcons
      obtain ⟨k0, c0⟩ := R0
      have other : ∀ {q : Option (Option Nat)}, (∀ cs, r0 ≠ .lst cs) → q = some r → (q = some (some 0)) → F_pictured [.imm c (.lst rows)] = .exc (xPic r) := fun {q} hne e1 e2 => by
        rw [e2] at e1
        cases e1
        clear hp hc hk h0 hl hm hr0 etl c0 h
        unfold xPic rD
        cases r0 with
        | lst cs => exact absurd rfl (hne cs)
        | non => unfold F_pictured den_pictured; walk_at "ev*"; first | done | rfl
        | bl i => unfold F_pictured den_pictured; walk_at "ev*"; first | done | rfl
        | int i => unfold F_pictured den_pictured; walk_at "ev*"; first | done | rfl
        | str s => unfold F_pictured den_pictured; walk_at "ev*"; first | done | rfl
        | tup s => unfold F_pictured den_pictured; walk_at "ev*"; first | done | rfl
        | dic k s => unfold F_pictured den_pictured; walk_at "ev*"; first | done | rfl
        | _ => simp [Pk] at k0
      have ehd : rows.headD .non = r0 := by rw [etl]; rfl
      rw [ehd] at h
      clear ehd
      cases r0 with
      | lst cs =>
        have lc : (D.lst cs).len? = some cs.length := v_len_lst
        obtain ⟨hcl, hcp⟩ := c0 cs rfl
        replace h : flC rows cs.length = some r := h
        unfold flC at h
        by_cases h3 : cs.length < 1 ∨ 64 < cs.length
        · rw [if_pos h3] at h
          cases h
          unfold xPic rD
          by_cases h4 : (1 : Int) ≤ (cs.length : Int)
          · have h5 : ¬ (cs.length : Int) ≤ 64 := by omega
            clear hp hc hk h0 h3 hl hm hr0 etl c0 hcp other
            unfold F_pictured den_pictured
            walk_at "ev*"
            first | done | rfl
          · clear hp hc hk h0 h3 hl hm hr0 etl c0 hcp other
            unfold F_pictured den_pictured
            walk_at "ev*"
            first | done | rfl
        · rw [if_neg h3] at h
          have h4 : (1 : Int) ≤ (cs.length : Int) := by omega
          have h5 : (cs.length : Int) ≤ 64 := by omega
          rcases findIdx_cases (fun r => !prow cs.length r) rows with ⟨e, _⟩ | ⟨j, e, hj, pj, pi⟩
          · rw [e] at h; cases h
          · rw [e] at h
            cases h
            obtain ⟨ρ2, ef⟩ := forL_exc (dg := dgName 2) (body := bd_pictured_1) (b := false) (e := xPic (some j)) (P := fun i ρ => ∃ t2, ρ = [.imm c (.lst rows), .imm false (.int (cs.length : Nat)), t2, .dead, .dead, .dead, .dead]) (rangeD 0 rows.length) 0 j
              [.imm c (.lst rows), .imm false (.int (cs.length : Nat)), .dead, .dead, .dead, .dead, .dead] ⟨_, rfl⟩ (fun i d ρ hi hd ⟨t2, eρ⟩ => by
                subst eρ
                obtain ⟨hi2, rfl⟩ := rangeD_at hd
                obtain ⟨cq, g, eq⟩ := gIx_ds (c := c) hi2
                clear eq
                have q := is_rowD (hp _ (List.getElem_mem hi2)) hm cs.length cq false
                have pz : prow cs.length rows[i] = true := by have := pi i hi; simpa using this
                rw [pz] at q
                refine ⟨_, [.imm c (.lst rows), .imm false (.int (cs.length : Nat)), .imm false (.int ((i : Nat) : Int)), .dead, .dead, .dead, .dead], by rw [Int.zero_add]; rfl, ?_, _, rfl⟩
                clear hp hc hk h0 h3 hl hm hr0 etl c0 hcp other g0 pi pj
                generalize rows[i] = rr at *
                generalize cs.length = w at *
                unfold bd_pictured_1
                walk_at "ev*"
                first | done | simp) (by simpa using hj) (fun d ρ hd ⟨t2, eρ⟩ => by
                subst eρ
                obtain ⟨hi2, rfl⟩ := rangeD_at hd
                obtain ⟨cq, g, eq⟩ := gIx_ds (c := c) hi2
                clear eq
                have q := is_rowD (hp _ (List.getElem_mem hi2)) hm cs.length cq false
                have pz : prow cs.length rows[j] = false := by simpa using pj
                rw [pz] at q
                refine ⟨_, [.imm c (.lst rows), .imm false (.int (cs.length : Nat)), .imm false (.int ((j : Nat) : Int)), .dead, .dead, .dead, .dead], by rw [Int.zero_add]; rfl, ?_⟩
                clear hp hc hk h0 h3 hl hm hr0 etl c0 hcp other g0 pi pj pz
                generalize rows[j] = rr at *
                generalize cs.length = w at *
                unfold bd_pictured_1 xPic rD
                walk_at "ev*"
                first | done | rfl)
            clear hp hc hk h0 h3 hl hm hr0 etl c0 hcp other pi pj
            generalize xPic (some j) = XX at *
            unfold F_pictured den_pictured
            walk_at "ev*"
            first | done | rfl
      | non => exact other (fun cs z => by cases z) h rfl
      | bl i => exact other (fun cs z => by cases z) h rfl
      | int i => exact other (fun cs z => by cases z) h rfl
      | str s => exact other (fun cs z => by cases z) h rfl
      | tup s => exact other (fun cs z => by cases z) h rfl
      | dic k s => exact other (fun cs z => by cases z) h rfl
      | _ => simp [Pk] at k0
  | non => cases h; clear hc; unfold F_pictured den_pictured xPic rD; walk_at "ev*"; first | done | rfl
  | bl i => cases h; clear hc; unfold F_pictured den_pictured xPic rD; walk_at "ev*"; first | done | rfl
  | int i => cases h; clear hc; unfold F_pictured den_pictured xPic rD; walk_at "ev*"; first | done | rfl
  | str s => cases h; clear hc; unfold F_pictured den_pictured xPic rD; walk_at "ev*"; first | done | rfl
  | tup s => cases h; clear hc; unfold F_pictured den_pictured xPic rD; walk_at "ev*"; first | done | rfl
  | dic k s => cases h; clear hc; unfold F_pictured den_pictured xPic rD; walk_at "ev*"; first | done | rfl
  | _ => simp [Pk] at hk
theorem forL_retAt {dg : DG} {body : DS} {b : Bool} {P : Nat → List T → Prop} {t : T} : ∀ (ds : List D) (k j : Nat) (ρ : List T), P k ρ → (∀ (i : Nat) (d : D) (ρ : List T), i < j → ds[i]? = some d → P (k + i) ρ → Goes dg body b d ρ (P (k + i + 1))) →
    j < ds.length → (∀ (d : D) (ρ : List T), ds[j]? = some d → P (k + j) ρ → ∃ ρ1 ρ2, dg (.imm b d) ρ = some ρ1 ∧ body ρ1 = .ret t ρ2) → ∃ ρ2, forL dg body b ds ρ = .ret t ρ2
  | [], k, j, ρ, _, _, hj, _ => by simp at hj
  | d :: ds, k, 0, ρ, h, _, _, he => by
    obtain ⟨ρ1, ρ2, e1, e2⟩ := he d ρ rfl h
    refine ⟨ρ2, ?_⟩
    unfold forL
    rw [e1]
    simp only
    rw [e2]
  | d :: ds, k, j + 1, ρ, h, hs, hj, he => by
    obtain ⟨ρ1, ρ2, e1, e2, h2⟩ := hs 0 d ρ (by omega) rfl h
    have q := forL_retAt ds (k + 1) j ρ2 h2 (fun i d ρ hi hd hp => by
      have q := hs (i + 1) d ρ (by omega) (by simpa using hd) (by rw [show k + (i + 1) = k + 1 + i by omega]; exact hp)
      rw [show k + (i + 1) + 1 = k + 1 + i + 1 by omega] at q
      exact q) (by simpa using hj) (fun d ρ hd hp => he d ρ (by simpa using hd) (by rw [show k + (j + 1) = k + 1 + j by omega]; exact hp))
    obtain ⟨ρ3, e3⟩ := q
    unfold forL
    rcases e2 with e2 | e2
    · refine ⟨ρ3, ?_⟩
      rw [e1]
      simp only
      rw [e2]
      exact e3
    · refine ⟨ρ3, ?_⟩
      rw [e1]
      simp only
      rw [e2]
      exact e3
def lfD : Option (Option Nat) → D
  | none => .non
  | some r => .tup [.str ("fault" : PySem.Str), rD r]
/-- the row's cells, asked -/
theorem cells_all {cs : List D} (hp : ∀ x ∈ cs, Pk x = true) (c c' : Bool) {a0 t1 : T} {d2 : D} : compL (dgName 3) dtYes (dFr (dCall F_L_cell_is [] (dCons (dVar 3) dNil))) [3] c cs [a0, t1, .imm c' d2, .dead] = .ok (cs.map fun d => D.bl (pcell d)) [a0, t1, .imm c' d2, .dead] := by
  obtain ⟨ρ', e, h2⟩ := compL_map (dg := dgName 3) (dt := dtYes) (de := dFr (dCall F_L_cell_is [] (dCons (dVar 3) dNil))) (own := [3]) (b := c) (f := fun d => D.bl (pcell d)) (ds := cs)
      (P := fun ρ => ρ = [a0, t1, .imm c' d2, .dead]) rfl fun x ρ hx eρ => by
        subst eρ
        have q := lcell_is (hp x hx) c
        refine ⟨_, _, .imm false (.bl (pcell x)), [a0, t1, .imm c' d2, .imm c x], rfl, rfl, ?_, rfl, rfl⟩
        clear hp hx
        walk_at "ev*"
  rw [e, h2]
theorem fbody_ok {c cq : Bool} {rows : List D} {cs : List D} {i n0 : Nat} {t2 : T} (hi : i < rows.length) (g : gIx c (.lst rows) (i : Int) = some (.imm cq (.lst cs))) {cz : Bool} {c0 : List D} (g0 : gIx c (.lst rows) 0 = some (.imm cz (.lst c0))) (hn : c0.length = n0) (n1 : 1 ≤ n0) (n2 : n0 ≤ 64) (hp : ∀ x ∈ cs, Pk x = true) (h1 : cs.length = n0) (h2 : cs.all pcell = true) :
    bd_L_fault_1 [.imm c (.lst rows), .imm false (.int (i : Nat)), t2, .dead] = .next [.imm c (.lst rows), .imm false (.int (i : Nat)), .imm cq (.lst cs), .dead] := by
  have lc : (D.lst cs).len? = some n0 := by rw [v_len_lst, h1]
  have l0 : (D.lst c0).len? = some n0 := by rw [v_len_lst, hn]
  have e := cells_all hp cq cq (a0 := .imm c (.lst rows)) (t1 := .imm false (.int (i : Nat))) (d2 := .lst cs)
  have eb : D.bools (cs.map fun d => D.bl (pcell d)) = some (cs.map pcell) := by rw [show (cs.map fun d => D.bl (pcell d)) = (cs.map pcell).map D.bl by simp]; exact all_bls _
  have ea : (cs.map pcell).all id = true := by rw [← h2]; simp [Function.comp_def]
  have i1 : ¬ (n0 : Int) < 1 := by omega
  have i2 : ¬ (64 : Int) < (n0 : Int) := by omega
  clear hp h1 h2 hn hi n1 n2
  generalize (cs.map fun d => D.bl (pcell d)) = BB at *
  generalize cs.map pcell = CC at *
  unfold bd_L_fault_1
  walk_at "ev*"
  first | done | rfl
theorem fbody_off {c cq : Bool} {rows : List D} {r : D} {m i n0 : Nat} {t2 : T} (g : gIx c (.lst rows) (i : Int) = some (.imm cq r)) (R : Rw m r) {cz : Bool} {c0 : List D} (g0 : gIx c (.lst rows) 0 = some (.imm cz (.lst c0))) (hn : c0.length = n0)
    (hb : prow n0 r = false) : ∃ ρ2, bd_L_fault_1 [.imm c (.lst rows), .imm false (.int (i : Nat)), t2, .dead] = .ret (.imm false (lfD (some (some i)))) ρ2 := by
  have l0 : (D.lst c0).len? = some n0 := by rw [v_len_lst, hn]
  obtain ⟨hk, hc⟩ := R
  unfold lfD rD
  cases r with
  | lst cs =>
    obtain ⟨_, hp⟩ := hc cs rfl
    refine ⟨[.imm c (.lst rows), .imm false (.int (i : Nat)), .imm cq (.lst cs), .dead], ?_⟩
    have lc : (D.lst cs).len? = some cs.length := v_len_lst
    have e := cells_all hp cq cq (a0 := .imm c (.lst rows)) (t1 := .imm false (.int (i : Nat))) (d2 := .lst cs)
    have eb : D.bools (cs.map fun d => D.bl (pcell d)) = some (cs.map pcell) := by rw [show (cs.map fun d => D.bl (pcell d)) = (cs.map pcell).map D.bl by simp]; exact all_bls _
    by_cases i1 : (cs.length : Int) < 1
    · clear hp hn hk hc hb e eb
      unfold bd_L_fault_1
      walk_at "ev*"
      first | done | rfl
    · by_cases i2 : (64 : Int) < (cs.length : Int)
      · clear hp hn hk hc hb e eb
        unfold bd_L_fault_1
        walk_at "ev*"
        first | done | rfl
      · by_cases i3 : (cs.length : Int) = (n0 : Int)
        · have ea : (cs.map pcell).all id = false := by
            have : cs.length = n0 := by omega
            have q : cs.all pcell = false := by simpa [prow, this] using hb
            rw [← q]; simp [Function.comp_def]
          clear hp hn hk hc hb
          generalize (cs.map fun d => D.bl (pcell d)) = BB at *
          generalize cs.map pcell = CC at *
          unfold bd_L_fault_1
          walk_at "ev*"
          first | done | rfl
        · clear hp hn hk hc hb e eb
          unfold bd_L_fault_1
          walk_at "ev*"
          first | done | rfl
  | non => refine ⟨[.imm c (.lst rows), .imm false (.int (i : Nat)), .imm cq .non, .dead], ?_⟩; clear hc hb; unfold bd_L_fault_1; walk_at "ev*"; first | done | rfl
  | bl z => refine ⟨[.imm c (.lst rows), .imm false (.int (i : Nat)), .imm cq (.bl z), .dead], ?_⟩; clear hc hb; unfold bd_L_fault_1; walk_at "ev*"; first | done | rfl
  | int z => refine ⟨[.imm c (.lst rows), .imm false (.int (i : Nat)), .imm cq (.int z), .dead], ?_⟩; clear hc hb; unfold bd_L_fault_1; walk_at "ev*"; first | done | rfl
  | str s => refine ⟨[.imm c (.lst rows), .imm false (.int (i : Nat)), .imm cq (.str s), .dead], ?_⟩; clear hc hb; unfold bd_L_fault_1; walk_at "ev*"; first | done | rfl
  | tup s => refine ⟨[.imm c (.lst rows), .imm false (.int (i : Nat)), .imm cq (.tup s), .dead], ?_⟩; clear hc hb; unfold bd_L_fault_1; walk_at "ev*"; first | done | rfl
  | dic k s => refine ⟨[.imm c (.lst rows), .imm false (.int (i : Nat)), .imm cq (.dic k s), .dead], ?_⟩; clear hc hb; unfold bd_L_fault_1; walk_at "ev*"; first | done | rfl
  | _ => simp [Pk] at hk
theorem lfault_ok {d : D} {m : Nat} (P : Ps m d) (hm : m ≤ 1000) (c : Bool) : F_L_fault [.imm c d] = .ok (.imm false (lfD (fl04 d))) := by
  obtain ⟨hk, hc⟩ := P
  cases d with
  | lst rows =>
    obtain ⟨hl, hp⟩ := hc rows rfl
    have el : (D.lst rows).len? = some rows.length := v_len_lst
    show _ = FR.ok (.imm false (lfD (flL rows)))
    unfold flL
    by_cases h0 : rows.length < 1 ∨ 64 < rows.length
    · rw [if_pos h0]
      unfold lfD rD
      by_cases h1 : (rows.length : Int) < 1
      · clear hp hc hk h0 hl hm
        unfold F_L_fault den_L_fault
        walk_at "ev*"
        first | done | rfl
      · have h2 : (64 : Int) < (rows.length : Int) := by omega
        clear hp hc hk h0 hl hm
        unfold F_L_fault den_L_fault
        walk_at "ev*"
        first | done | rfl
    · rw [if_neg h0]
      have h1 : ¬ (rows.length : Int) < 1 := by omega
      have h2 : ¬ (64 : Int) < (rows.length : Int) := by omega
      have hlen : 0 < rows.length := by omega
      obtain ⟨cz, g0, ez⟩ := gIx_ds (c := c) hlen
      obtain ⟨r0, hr0⟩ : ∃ r0, r0 = rows[0] := ⟨_, rfl⟩
      replace g0 : gIx c (.lst rows) 0 = some (.imm cz r0) := by rw [hr0]; exact g0
      clear ez
      have R0 : Rw m r0 := by rw [hr0]; exact hp _ (List.getElem_mem hlen)
      have hcons : ∃ tl, rows = r0 :: tl := by
        cases rows with
        | nil => simp at hlen
        | cons a tl => exact ⟨tl, by rw [hr0]; rfl⟩
      have ehd : rows.headD .non = r0 := by obtain ⟨tl, etl⟩ := hcons; rw [etl]; rfl
      rw [ehd]
      have k0 := R0.1
      have fin_ : ∀ {t : T} {ρ2 : List T}, forL (dgName 1) bd_L_fault_1 false (rangeD 0 rows.length) [.imm c (.lst rows), .dead, .dead, .dead] = .ret t ρ2 → F_L_fault [.imm c (.lst rows)] = .ok t := fun {t ρ2} ef => by
        clear hp hc hk h0 hl hm hr0 hcons ehd R0 g0
        unfold F_L_fault den_L_fault
        walk_at "ev*"
        first | done | rfl
      -- the first row is no row of any width
      have first_ : (∀ cs, r0 = .lst cs → cs.length < 1 ∨ 64 < cs.length) → F_L_fault [.imm c (.lst rows)] = .ok (.imm false (lfD (some (some 0)))) := fun hb => by
        obtain ⟨ρ2, ef⟩ := forL_retAt (dg := dgName 1) (body := bd_L_fault_1) (b := false) (t := .imm false (lfD (some (some 0)))) (P := fun _ ρ => ρ = [.imm c (.lst rows), .dead, .dead, .dead]) (rangeD 0 rows.length) 0 0 _ rfl (fun i d ρ hi => by omega) (by simpa using hlen) (fun d ρ hd eρ => by
          subst eρ
          obtain ⟨_, rfl⟩ := rangeD_at hd
          refine ⟨[.imm c (.lst rows), .imm false (.int 0), .dead, .dead], ?_⟩
          cases r0 with
          | lst cs =>
            refine ⟨[.imm c (.lst rows), .imm false (.int 0), .imm cz (.lst cs), .dead], rfl, ?_⟩
            have lc : (D.lst cs).len? = some cs.length := v_len_lst
            have hb2 := hb cs rfl
            clear hb hp hc hk hl hm hr0 hcons ehd R0 fin_
            unfold lfD rD
            by_cases i1 : (cs.length : Int) < 1
            · clear hb2
              unfold bd_L_fault_1
              walk_at "ev*"
              first | done | rfl
            · have i2 : (64 : Int) < (cs.length : Int) := by omega
              clear hb2
              unfold bd_L_fault_1
              walk_at "ev*"
              first | done | rfl
          | non => refine ⟨[.imm c (.lst rows), .imm false (.int 0), .imm cz .non, .dead], rfl, ?_⟩; clear hb hp hc hk hl hm hr0 hcons ehd R0 fin_; unfold bd_L_fault_1 lfD rD; walk_at "ev*"; first | done | rfl
          | bl z => refine ⟨[.imm c (.lst rows), .imm false (.int 0), .imm cz (.bl z), .dead], rfl, ?_⟩; clear hb hp hc hk hl hm hr0 hcons ehd R0 fin_; unfold bd_L_fault_1 lfD rD; walk_at "ev*"; first | done | rfl
          | int z => refine ⟨[.imm c (.lst rows), .imm false (.int 0), .imm cz (.int z), .dead], rfl, ?_⟩; clear hb hp hc hk hl hm hr0 hcons ehd R0 fin_; unfold bd_L_fault_1 lfD rD; walk_at "ev*"; first | done | rfl
          | str s => refine ⟨[.imm c (.lst rows), .imm false (.int 0), .imm cz (.str s), .dead], rfl, ?_⟩; clear hb hp hc hk hl hm hr0 hcons ehd R0 fin_; unfold bd_L_fault_1 lfD rD; walk_at "ev*"; first | done | rfl
          | tup s => refine ⟨[.imm c (.lst rows), .imm false (.int 0), .imm cz (.tup s), .dead], rfl, ?_⟩; clear hb hp hc hk hl hm hr0 hcons ehd R0 fin_; unfold bd_L_fault_1 lfD rD; walk_at "ev*"; first | done | rfl
          | dic k s => refine ⟨[.imm c (.lst rows), .imm false (.int 0), .imm cz (.dic k s), .dead], rfl, ?_⟩; clear hb hp hc hk hl hm hr0 hcons ehd R0 fin_; unfold bd_L_fault_1 lfD rD; walk_at "ev*"; first | done | rfl
          | _ => simp [Pk] at k0)
        exact fin_ ef
      cases r0 with
      | lst cs =>
        show _ = FR.ok (.imm false (lfD (flC rows cs.length)))
        unfold flC
        by_cases h3 : cs.length < 1 ∨ 64 < cs.length
        · rw [if_pos h3]
          exact first_ fun cs' e => by cases e; exact h3
        · rw [if_neg h3]
          have good : ∀ (i : Nat) (hi : i < rows.length), prow cs.length rows[i] = true → ∀ t2 : T, ∃ t2', bd_L_fault_1 [.imm c (.lst rows), .imm false (.int (i : Nat)), t2, .dead] = .next [.imm c (.lst rows), .imm false (.int (i : Nat)), t2', .dead] := fun i hi hpi t2 => by
            obtain ⟨cq, g, _⟩ := gIx_ds (c := c) hi
            have Ri := hp _ (List.getElem_mem hi)
            revert g hpi Ri
            generalize rows[i] = ri
            intro hpi g Ri
            cases ri with
            | lst xs =>
              have hx : xs.length = cs.length ∧ xs.all pcell = true := by simpa [prow] using hpi
              exact ⟨_, fbody_ok hi g g0 rfl (by omega) (by omega) (Ri.2 xs rfl).2 hx.1 hx.2⟩
            | _ => simp [prow] at hpi
          rcases findIdx_cases (fun r => !prow cs.length r) rows with ⟨e, ha⟩ | ⟨j, e, hj, pj, pi⟩
          · rw [e]
            obtain ⟨ρ', ef, t1, t2, eρ⟩ := forL_range (dg := dgName 1) (body := bd_L_fault_1) (b := false) (lo := 0) (n := rows.length) (ρ := [.imm c (.lst rows), .dead, .dead, .dead]) (P := fun _ ρ => ∃ t1 t2, ρ = [.imm c (.lst rows), t1, t2, .dead]) ⟨_, _, rfl⟩ fun i ρ hi ⟨t1, t2, eρ⟩ => by
              subst eρ
              obtain ⟨t2', q⟩ := good i hi (by have := ha _ (List.getElem_mem hi); simpa using this) t2
              exact ⟨_, _, by rw [Int.zero_add]; rfl, .inl q, _, _, rfl⟩
            subst eρ
            clear hp hc hk h0 hl hm hr0 hcons ehd R0 g0 good first_ fin_ ha
            unfold lfD
            unfold F_L_fault den_L_fault
            walk_at "ev*"
            first | done | rfl
          · rw [e]
            obtain ⟨ρ2, ef⟩ := forL_retAt (dg := dgName 1) (body := bd_L_fault_1) (b := false) (t := .imm false (lfD (some (some j)))) (P := fun _ ρ => ∃ t1 t2, ρ = [.imm c (.lst rows), t1, t2, .dead]) (rangeD 0 rows.length) 0 j [.imm c (.lst rows), .dead, .dead, .dead] ⟨_, _, rfl⟩ (fun i d ρ hi hd ⟨t1, t2, eρ⟩ => by
                subst eρ
                obtain ⟨hi2, rfl⟩ := rangeD_at hd
                obtain ⟨t2', q⟩ := good i hi2 (by have := pi i hi; simpa using this) t2
                exact ⟨_, _, by rw [Int.zero_add]; rfl, .inl q, _, _, rfl⟩) (by simpa using hj) (fun d ρ hd ⟨t1, t2, eρ⟩ => by
                subst eρ
                obtain ⟨hi2, rfl⟩ := rangeD_at hd
                obtain ⟨cq, g, _⟩ := gIx_ds (c := c) hj
                obtain ⟨ρ3, q⟩ := fbody_off (t2 := t2) g (hp _ (List.getElem_mem hj)) g0 rfl (by simpa using pj)
                exact ⟨_, ρ3, by rw [Int.zero_add]; rfl, q⟩)
            exact fin_ ef
      | non => exact first_ fun cs z => by cases z
      | bl i => exact first_ fun cs z => by cases z
      | int i => exact first_ fun cs z => by cases z
      | str s => exact first_ fun cs z => by cases z
      | tup s => exact first_ fun cs z => by cases z
      | dic k s => exact first_ fun cs z => by cases z
      | _ => simp [Pk] at k0
  | non => clear hc; unfold F_L_fault den_L_fault fl04 lfD rD; walk_at "ev*"; first | done | rfl
  | bl i => clear hc; unfold F_L_fault den_L_fault fl04 lfD rD; walk_at "ev*"; first | done | rfl
  | int i => clear hc; unfold F_L_fault den_L_fault fl04 lfD rD; walk_at "ev*"; first | done | rfl
  | str s => clear hc; unfold F_L_fault den_L_fault fl04 lfD rD; walk_at "ev*"; first | done | rfl
  | tup s => clear hc; unfold F_L_fault den_L_fault fl04 lfD rD; walk_at "ev*"; first | done | rfl
  | dic k s => clear hc; unfold F_L_fault den_L_fault fl04 lfD rD; walk_at "ev*"; first | done | rfl
  | _ => simp [Pk] at hk
/-- no fault: they are rows of cells -/
theorem cell_of_pcell {d : D} (h : pcell d = true) : ∃ c : Cell, okc c ∧ cellD c = d := by
  cases d with
  | non => exact ⟨none, (by show (0 : Nat) < 16; omega), rfl⟩
  | int i =>
    have h' : 0 ≤ i ∧ i < 16 := by simpa [pcell] using h
    obtain ⟨n, rfl⟩ := Int.eq_ofNat_of_zero_le h'.1
    exact ⟨some n, (by show n < 16; omega), rfl⟩
  | _ => simp [pcell] at h
theorem row_of_prow {w : Nat} {d : D} (h : prow w d = true) : ∃ r : List Cell, r.length = w ∧ (∀ c ∈ r, okc c) ∧ rowD r = d := by
  cases d with
  | lst cs =>
    have h' : cs.length = w ∧ ∀ x ∈ cs, pcell x = true := by simpa [prow] using h
    obtain ⟨h1, h2⟩ := h'
    subst h1
    clear h
    induction cs with
    | nil => exact ⟨[], rfl, (fun c z => by cases z), rfl⟩
    | cons x xs ih =>
      obtain ⟨r, l, o, e⟩ := ih fun y hy => h2 y (List.mem_cons_of_mem _ hy)
      obtain ⟨c, oc, ec⟩ := cell_of_pcell (h2 x List.mem_cons_self)
      refine ⟨c :: r, by simp [l], fun y hy => ?_, ?_⟩
      · rcases List.mem_cons.mp hy with rfl | hy
        · exact oc
        · exact o y hy
      · have e' : r.map cellD = xs := by
          have := e
          unfold rowD at this
          injection this
        unfold rowD
        rw [List.map_cons, ec, e']
  | _ => simp [prow] at h
theorem rows_of_prow {w : Nat} : ∀ {ds : List D}, (∀ d ∈ ds, prow w d = true) → ∃ rs : List (List Cell), (∀ r ∈ rs, r.length = w ∧ ∀ c ∈ r, okc c) ∧ rs.map rowD = ds
  | [], _ => ⟨[], (fun r z => by cases z), rfl⟩
  | d :: ds, h => by
    obtain ⟨rs, h1, h2⟩ := rows_of_prow fun x hx => h x (List.mem_cons_of_mem _ hx)
    obtain ⟨r, l, o, e⟩ := row_of_prow (h d List.mem_cons_self)
    refine ⟨r :: rs, fun y hy => ?_, by rw [List.map_cons, e, h2]⟩
    rcases List.mem_cons.mp hy with rfl | hy
    · exact ⟨l, o⟩
    · exact h1 y hy
theorem good_rows {d : D} (h : fl04 d = none) : ∃ rs w h, Rect rs w h ∧ d = rowsD rs := by
  cases d with
  | lst rows =>
    replace h : flL rows = none := h
    unfold flL at h
    by_cases h0 : rows.length < 1 ∨ 64 < rows.length
    · rw [if_pos h0] at h; cases h
    · rw [if_neg h0] at h
      cases hh : rows.headD .non with
      | lst cs =>
        rw [hh] at h
        replace h : flC rows cs.length = none := h
        unfold flC at h
        by_cases h3 : cs.length < 1 ∨ 64 < cs.length
        · rw [if_pos h3] at h; cases h
        · rw [if_neg h3] at h
          rcases findIdx_cases (fun r => !prow cs.length r) rows with ⟨e, ha⟩ | ⟨j, e, _⟩
          · obtain ⟨rs, h1, h2⟩ := rows_of_prow (w := cs.length) fun x hx => by have := ha x hx; simpa using this
            have hl : rs.length = rows.length := by rw [← h2, List.length_map]
            exact ⟨rs, cs.length, rows.length, ⟨hl, h1, by omega, by omega, by omega, by omega⟩, by unfold rowsD; rw [h2]⟩
          · rw [e] at h; cases h
      | _ => rw [hh] at h; cases h
  | _ => cases h
theorem tryRest_of {i a dd : Nat} {ds dp : Nat → Nat → Ex → DS} {e : Ex} {ρ ρ1 ρ2 : List T} {t : T} (h1 : ds a dd e (ρ.set i (.imm false (exD a dd e))) = .next ρ1) (h2 : dp a dd e (ρ1.set i .dead) = .ret t ρ2) (hl : ρ2.length = ρ.length) : tryRest i ds dp a dd e ρ = some t := by
  unfold tryRest
  simp only [h1, h2, hl, if_true]
theorem apart_ok {a dd : Nat} {d : D} : F_L_apart a dd ⟨7, [("row" : PySem.Str)], [d]⟩ [.imm false (.exn a dd [("row" : PySem.Str)] [d])] = .ok (.imm false (.bl true)) := by
  unfold F_L_apart den_L_apart ksT
  walk_at "ev"
  first | done | rfl
theorem asked_bad {d : D} {m : Nat} (P : Ps m d) (hm : m ≤ 1000) {r : Option Nat} (h : fl04 d = some r) (c : Bool) : F_L_asked [.imm c d] = .ok (.imm false (lfD (some r))) := by
  have e := pictured_bad P hm h c
  have hx : xPic r = ⟨7, [("row" : PySem.Str)], [rD r]⟩ := rfl
  have h1 : (dSet 1 (dCall F_pictured [] (dCons (dVar 0) dNil))) [.imm c d, .imm false .non, .dead] = .exc (xPic r) [.imm c d, .imm false .non, .dead] := by
    generalize xPic r = XX at *
    clear hx
    walk_at "ev*"
  have k : dTryR 2 (isT ksT 0) (dSet 1 (dCall F_pictured [] (dCons (dVar 0) dNil))) (dSeq (dIf (dtVal (dIsN (dVar 1))) (dSeq dsBad dsBad) dPass) (dRet (dMove 1))) su_L_asked_1 su_L_asked_2 [.imm c d, .imm false .non, .dead] = .ret (.imm false (lfD (some r))) (List.replicate 3 .dead) := by
    refine dTryR_exc h1 (by rw [hx]; unfold ksT; rfl) (by simp) fun a dd => ?_
    rw [hx]
    have q := apart_ok (a := a) (dd := dd) (d := rD r)
    have e1 : su_L_asked_1 a dd ⟨7, [("row" : PySem.Str)], [rD r]⟩ [.imm c d, .imm false .non, .imm false (.exn a dd [("row" : PySem.Str)] [rD r])] = .next [.imm c d, .imm false (.exn a dd [("row" : PySem.Str)] [rD r]), .imm false (.exn a dd [("row" : PySem.Str)] [rD r])] := by
      unfold su_L_asked_1
      walk_at "ev"
    have e2 : ∃ ρ2, su_L_asked_2 a dd ⟨7, [("row" : PySem.Str)], [rD r]⟩ [.imm c d, .imm false (.exn a dd [("row" : PySem.Str)] [rD r]), .dead] = .ret (.imm false (.tup [.str ("fault" : PySem.Str), rD r])) ρ2 ∧ ρ2.length = 3 := by
      refine ⟨[.imm c d, .imm false (.exn a dd [("row" : PySem.Str)] [rD r]), .dead], ?_, rfl⟩
      clear e h h1 P e1 hx
      have hok : xfOk_row 7 = true := rfl
      unfold su_L_asked_2 ksT
      walk_at "ev*"
      first | done | rfl
    obtain ⟨ρ2, e2, hl⟩ := e2
    exact tryRest_of e1 e2 hl
  clear e h h1 P hx
  generalize lfD (some r) = LL at *
  unfold F_L_asked den_L_asked
  walk_at "ev*"
  first | done | rfl
theorem asked_good {rs : List (List Cell)} {w h : Nat} (R : Rect rs w h) (c : Bool) : F_L_asked [.imm c (rowsD rs)] = .ok (.imm false (picD w rs)) := by
  have e := pictured_ok R c
  have h1 : (dSet 1 (dCall F_pictured [] (dCons (dVar 0) dNil))) [.imm c (rowsD rs), .imm false .non, .dead] = .next [.imm c (rowsD rs), .imm false (picD w rs), .dead] := by
    clear R
    walk_at "ev*"
  have k : dTryR 2 (isT ksT 0) (dSet 1 (dCall F_pictured [] (dCons (dVar 0) dNil))) (dSeq (dIf (dtVal (dIsN (dVar 1))) (dSeq dsBad dsBad) dPass) (dRet (dMove 1))) su_L_asked_1 su_L_asked_2 [.imm c (rowsD rs), .imm false .non, .dead] = .ret (.imm false (picD w rs)) [.imm c (rowsD rs), .dead, .dead] := by
    rw [dTryR_next h1]
    clear R e h1
    unfold picD
    walk_at "ev"
    first | done | rfl
  clear R e h1
  unfold F_L_asked den_L_asked
  walk_at "ev*"
  first | done | rfl
theorem no_row_ok {ns : List Int} {k : Int} (h1 : 0 ≤ k) (h2 : k ≤ 1000000) : ∃ d, F_L_no_row [.imm false (.scr ns), .imm false (.int k), .imm false (.lst [.int 1, .non])] = .ok (.imm false d) ∧ Rw 65 d := by
  obtain ⟨z, z0, z1, e⟩ := @draw_ok ns k 10 h1 (by omega) (by omega)
  have goal : ∀ d, L2.atI [D.non, .int 3, .bl true, .str ("" : PySem.Str), .str ("12" : PySem.Str), .tup [.int 1, .non], .dic [.inl 0] [.int 1], .lst [], .lst (List.replicate 65 (D.int 1)), .lst (List.replicate 64 D.non ++ [.int 1])] z = some d → F_L_no_row [.imm false (.scr ns), .imm false (.int k), .imm false (.lst [.int 1, .non])] = .ok (.imm false d) := fun d hd => by
    have f1 : (List.replicate 64 [D.non]).flatten = List.replicate 64 D.non := by simp
    have f2 : (List.replicate 65 [D.int 1]).flatten = List.replicate 65 (D.int 1) := by simp
    have f3 : (List.replicate 64 D.non).length = 64 := by simp
    obtain ⟨A, eA⟩ : ∃ A, A = List.replicate 64 D.non := ⟨_, rfl⟩
    obtain ⟨B, eB⟩ : ∃ B, B = List.replicate 65 (D.int 1) := ⟨_, rfl⟩
    rw [← eA] at f1 f3 hd
    rw [← eB] at f2 hd
    clear z0 z1 h1 h2 eA eB
    have hgi : Option.map (T.imm false) (L2.atI [D.non, .int 3, .bl true, .str ("" : PySem.Str), .str ("12" : PySem.Str), .tup [.int 1, .non], .dic [.inl 0] [.int 1], .lst [], .lst B, .lst (A ++ [.int 1])] z) = some (.imm false d) := by
      rw [hd]
      rfl
    clear hd
    unfold F_L_no_row den_L_no_row
    walk_at "ev*"
    first | done | rfl
  have pick : ∀ d, Rw 65 d → L2.atI [D.non, .int 3, .bl true, .str ("" : PySem.Str), .str ("12" : PySem.Str), .tup [.int 1, .non], .dic [.inl 0] [.int 1], .lst [], .lst (List.replicate 65 (D.int 1)), .lst (List.replicate 64 D.non ++ [.int 1])] z = some d → ∃ d, F_L_no_row [.imm false (.scr ns), .imm false (.int k), .imm false (.lst [.int 1, .non])] = .ok (.imm false d) ∧ Rw 65 d := fun d R h => ⟨d, goal d h, R⟩
  have fl_ : ∀ d, Pk d = true → (∀ cs, d ≠ .lst cs) → Rw 65 d := fun d h hn => ⟨h, fun cs e => absurd e (hn cs)⟩
  rcases (show z = 0 ∨ z = 1 ∨ z = 2 ∨ z = 3 ∨ z = 4 ∨ z = 5 ∨ z = 6 ∨ z = 7 ∨ z = 8 ∨ z = 9 by omega) with rfl | rfl | rfl | rfl | rfl | rfl | rfl | rfl | rfl | rfl
  · exact pick _ (fl_ _ rfl (fun cs z => by cases z)) rfl
  · exact pick _ (fl_ _ rfl (fun cs z => by cases z)) rfl
  · exact pick _ (fl_ _ rfl (fun cs z => by cases z)) rfl
  · exact pick _ (fl_ _ rfl (fun cs z => by cases z)) rfl
  · exact pick _ (fl_ _ rfl (fun cs z => by cases z)) rfl
  · exact pick _ (fl_ _ rfl (fun cs z => by cases z)) rfl
  · exact pick _ (fl_ _ rfl (fun cs z => by cases z)) rfl
  · exact pick (.lst []) ⟨rfl, fun cs e => by cases e; exact ⟨by simp, fun c z => by cases z⟩⟩ rfl
  · exact pick (.lst (List.replicate 65 (D.int 1))) ⟨rfl, fun cs e => by cases e; exact ⟨by simp, fun c z => by rw [List.eq_of_mem_replicate z]; rfl⟩⟩ rfl
  · exact pick (.lst (List.replicate 64 D.non ++ [.int 1])) ⟨rfl, fun cs e => by
      cases e
      refine ⟨by simp, fun c z => ?_⟩
      rcases List.mem_append.mp z with z | z
      · rw [List.eq_of_mem_replicate z]; rfl
      · rw [List.mem_singleton.mp z]; rfl⟩ rfl
theorem no_cell_ok {ns : List Int} {k : Int} (h1 : 0 ≤ k) (h2 : k ≤ 1000000) : ∃ d, F_L_no_cell [.imm false (.scr ns), .imm false (.int k)] = .ok (.imm false d) ∧ Pk d = true := by
  obtain ⟨g, g0, g1, eg⟩ := @great2_ok ns k (10 ^ 60 - 16) h1 (by omega) (by omega)
  obtain ⟨z, z0, z1, e⟩ := @draw_ok ns (k + 1) 13 (by omega) (by omega) (by omega)
  have goal : ∀ d, L2.atI [D.bl true, .bl false, .int 16, .int (-1), .int (16 + g), .int (-1 - g), .str ("1" : PySem.Str), .str ("" : PySem.Str), .lst [.int 3], .tup [.int 3], .dic [.inl 3] [.int 3], .lst [], .tup []] z = some d → F_L_no_cell [.imm false (.scr ns), .imm false (.int k)] = .ok (.imm false d) := fun d hd => by
    have hgi : Option.map (T.imm false) (L2.atI [D.bl true, .bl false, .int 16, .int (-1), .int (16 + g), .int (-1 - g), .str ("1" : PySem.Str), .str ("" : PySem.Str), .lst [.int 3], .tup [.int 3], .dic [.inl 3] [.int 3], .lst [], .tup []] z) = some (.imm false d) := by
      rw [hd]
      rfl
    have e60 : (10 : Int) ^ 60 - 16 = 999999999999999999999999999999999999999999999999999999999984 := by decide
    rw [e60] at eg
    clear hd z0 z1 h1 h2 g0 g1 e60
    unfold F_L_no_cell den_L_no_cell
    walk_at "ev*"
    first | done | rfl
  have pick : ∀ d, Pk d = true → L2.atI [D.bl true, .bl false, .int 16, .int (-1), .int (16 + g), .int (-1 - g), .str ("1" : PySem.Str), .str ("" : PySem.Str), .lst [.int 3], .tup [.int 3], .dic [.inl 3] [.int 3], .lst [], .tup []] z = some d → ∃ d, F_L_no_cell [.imm false (.scr ns), .imm false (.int k)] = .ok (.imm false d) ∧ Pk d = true := fun d R h => ⟨d, goal d h, R⟩
  rcases (show z = 0 ∨ z = 1 ∨ z = 2 ∨ z = 3 ∨ z = 4 ∨ z = 5 ∨ z = 6 ∨ z = 7 ∨ z = 8 ∨ z = 9 ∨ z = 10 ∨ z = 11 ∨ z = 12 by omega) with rfl | rfl | rfl | rfl | rfl | rfl | rfl | rfl | rfl | rfl | rfl | rfl | rfl <;> exact pick _ rfl rfl
theorem no_rows_ok {ns : List Int} {k : Int} {rs : List (List Cell)} {w h : Nat} (R : Rect rs w h) (h1 : 0 ≤ k) (h2 : k ≤ 1000000) : ∃ d, F_L_no_rows [.imm false (.scr ns), .imm false (.int k), .imm false (rowsD rs)] = .ok (.imm false d) ∧ Ps 65 d := by
  obtain ⟨z, z0, z1, e⟩ := @draw_ok ns k 10 h1 (by omega) (by omega)
  have hlen : 0 < rs.length := by rw [R.len]; have := R.h1; omega
  obtain ⟨r0, hr0⟩ : ∃ r0, rs[0]? = some r0 := ⟨_, List.getElem?_eq_getElem hlen⟩
  have g0 := gIx_rows (c := false) hr0
  have okr : ∀ r ∈ rs, Rw 65 (rowD r) := fun r hr => ⟨rfl, fun cs e => by
    unfold rowD at e
    cases e
    refine ⟨by rw [List.length_map, (R.row r hr).1]; have := R.w64; omega, fun c hc => ?_⟩
    obtain ⟨x, _, rfl⟩ := List.mem_map.mp hc
    cases x <;> rfl⟩
  have goal : ∀ d, L2.atI [D.non, .tup [], .str ("" : PySem.Str), .int 0, .bl true, .tup (rs.map rowD), .lst [], .dic [] [], .lst (List.replicate 65 (rowD r0)), .dic [.inl 0] [rowD r0]] z = some d → F_L_no_rows [.imm false (.scr ns), .imm false (.int k), .imm false (rowsD rs)] = .ok (.imm false d) := fun d hd => by
    have hgi : Option.map (T.imm false) (L2.atI [D.non, .tup [], .str ("" : PySem.Str), .int 0, .bl true, .tup (rs.map rowD), .lst [], .dic [] [], .lst (List.replicate 65 (rowD r0)), .dic [.inl 0] [rowD r0]] z) = some (.imm false d) := by
      rw [hd]
      rfl
    have f2 : (List.replicate 65 [rowD r0]).flatten = List.replicate 65 (rowD r0) := by simp
    obtain ⟨B, eB⟩ : ∃ B, B = List.replicate 65 (rowD r0) := ⟨_, rfl⟩
    rw [← eB] at f2 hgi
    have l64 : rs.length ≤ 64 := by rw [R.len]; exact R.h64
    replace g0 : gIx false (rowsD rs) 0 = some (.imm false (rowD r0)) := g0
    clear hd z0 z1 h1 h2 eB R hr0 hlen okr
    unfold rowsD at *
    generalize rowD r0 = D0 at *
    unfold F_L_no_rows den_L_no_rows
    walk_at "ev*"
    first | done | rfl
  have pick : ∀ d, Ps 65 d → L2.atI [D.non, .tup [], .str ("" : PySem.Str), .int 0, .bl true, .tup (rs.map rowD), .lst [], .dic [] [], .lst (List.replicate 65 (rowD r0)), .dic [.inl 0] [rowD r0]] z = some d → ∃ d, F_L_no_rows [.imm false (.scr ns), .imm false (.int k), .imm false (rowsD rs)] = .ok (.imm false d) ∧ Ps 65 d := fun d R h => ⟨d, goal d h, R⟩
  have fl_ : ∀ d, Pk d = true → (∀ cs, d ≠ .lst cs) → Ps 65 d := fun d h hn => ⟨h, fun cs e => absurd e (hn cs)⟩
  rcases (show z = 0 ∨ z = 1 ∨ z = 2 ∨ z = 3 ∨ z = 4 ∨ z = 5 ∨ z = 6 ∨ z = 7 ∨ z = 8 ∨ z = 9 by omega) with rfl | rfl | rfl | rfl | rfl | rfl | rfl | rfl | rfl | rfl
  · exact pick _ (fl_ _ rfl (fun cs z => by cases z)) rfl
  · exact pick _ (fl_ _ rfl (fun cs z => by cases z)) rfl
  · exact pick _ (fl_ _ rfl (fun cs z => by cases z)) rfl
  · exact pick _ (fl_ _ rfl (fun cs z => by cases z)) rfl
  · exact pick _ (fl_ _ rfl (fun cs z => by cases z)) rfl
  · exact pick _ (fl_ _ rfl (fun cs z => by cases z)) rfl
  · exact pick (.lst []) ⟨rfl, fun cs e => by cases e; exact ⟨by simp, fun c z => by cases z⟩⟩ rfl
  · exact pick _ (fl_ _ rfl (fun cs z => by cases z)) rfl
  · exact pick (.lst (List.replicate 65 (rowD r0))) ⟨rfl, fun cs e => by cases e; exact ⟨by simp, fun c z => by rw [List.eq_of_mem_replicate z]; exact okr r0 (List.mem_of_getElem? hr0)⟩⟩ rfl
  · exact pick _ (fl_ _ rfl (fun cs z => by cases z)) rfl
/-! rows spoiled -/
def toT : D → T
  | .lst cs => .lstI cs
  | d => .imm false d
theorem toT_frz (d : D) : (toT d).frz = some (false, d) := by cases d <;> rfl
theorem frzs_toT : ∀ rows : List D, frzs (rows.map toT) = some (false, rows)
  | [] => rfl
  | d :: ds => by
    show frzs (toT d :: ds.map toT) = _
    unfold frzs
    rw [toT_frz, frzs_toT ds]
    rfl
theorem frzs_set : ∀ {ts : List T} {ds : List D} {i : Nat} {t : T} {d : D}, frzs ts = some (false, ds) → t.frz = some (false, d) → frzs (ts.set i t) = some (false, ds.set i d)
  | [], ds, i, t, d, h, ht => by
    simp only [frzs] at h
    cases h
    rfl
  | u :: ts, ds, 0, t, d, h, ht => by
    unfold frzs at h
    cases e1 : u.frz with
    | none => rw [e1] at h; cases h
    | some q =>
      obtain ⟨b, x⟩ := q
      rw [e1] at h
      cases e2 : frzs ts with
      | none => rw [e2] at h; cases h
      | some q2 =>
        obtain ⟨b2, xs⟩ := q2
        rw [e2] at h
        simp at h
        obtain ⟨⟨rfl, rfl⟩, rfl⟩ := h
        show frzs (t :: ts) = _
        unfold frzs
        rw [ht, e2]
        rfl
  | u :: ts, ds, i + 1, t, d, h, ht => by
    unfold frzs at h
    cases e1 : u.frz with
    | none => rw [e1] at h; cases h
    | some q =>
      obtain ⟨b, x⟩ := q
      rw [e1] at h
      cases e2 : frzs ts with
      | none => rw [e2] at h; cases h
      | some q2 =>
        obtain ⟨b2, xs⟩ := q2
        rw [e2] at h
        simp at h
        obtain ⟨⟨rfl, rfl⟩, rfl⟩ := h
        show frzs (u :: ts.set i t) = _
        unfold frzs
        rw [e1, frzs_set e2 ht]
        rfl
theorem noB_toT (d : D) : noB (toT d) = true := by cases d <;> rfl
theorem noBs_toT : ∀ rows : List D, noBs (rows.map toT) = true
  | [] => rfl
  | d :: ds => by
    show noBs (toT d :: ds.map toT) = true
    simp [noBs, noB_toT, noBs_toT ds]
theorem made_ok {rows : List D} {m : Nat} (hr : ∀ r ∈ rows, Rw m r) (hm : m ≤ 1000) {a0 a1 : T} :
    compLO (dgName 4) dtYes (dIfE (dtNot (dtVal (dBi fIsi (dCons (dVar 4) (dCons (dC (.ty "list")) dNil))))) (dVar 4) (dBi fList (dCons (dVar 4) dNil))) [4] false rows [a0, a1, .imm false (.lst rows), .dead, .dead, .dead, .dead, .dead] =
      .ok (rows.map toT) [a0, a1, .imm false (.lst rows), .dead, .dead, .dead, .dead, .dead] := by
  obtain ⟨ρ', e, h2⟩ := compLO_mapf (dg := dgName 4) (dt := dtYes) (de := dIfE (dtNot (dtVal (dBi fIsi (dCons (dVar 4) (dCons (dC (.ty "list")) dNil))))) (dVar 4) (dBi fList (dCons (dVar 4) dNil))) (own := [4]) (b := false) (f := fun d => d) (g := toT)
    (P := fun ρ => ρ = [a0, a1, .imm false (.lst rows), .dead, .dead, .dead, .dead, .dead]) rows [a0, a1, .imm false (.lst rows), .dead, .dead, .dead, .dead, .dead] rfl fun d ρ hd eρ => by
      subst eρ
      obtain ⟨hk, hc⟩ := hr d hd
      refine ⟨_, _, [a0, a1, .imm false (.lst rows), .dead, .imm false d, .dead, .dead, .dead], rfl, rfl, ?_, rfl⟩
      clear hr hd
      cases d with
      | lst cs =>
        obtain ⟨hl, _⟩ := hc cs rfl
        clear hc
        unfold toT
        walk_at "ev"
        first | done | rfl
      | non => clear hc; unfold toT; walk_at "ev"; first | done | rfl
      | bl i => clear hc; unfold toT; walk_at "ev"; first | done | rfl
      | int i => clear hc; unfold toT; walk_at "ev"; first | done | rfl
      | str s => clear hc; unfold toT; walk_at "ev"; first | done | rfl
      | tup s => clear hc; unfold toT; walk_at "ev"; first | done | rfl
      | dic k s => clear hc; unfold toT; walk_at "ev"; first | done | rfl
      | _ => simp [Pk] at hk
  rw [show rows.map (fun d => d) = rows by simp] at e
  rw [e, h2]
theorem set_Rw {rows : List D} {m i : Nat} {d : D} (hr : ∀ r ∈ rows, Rw m r) (hd : Rw (m + 1) d) : ∀ r ∈ rows.set i d, Rw (m + 1) r := fun r h => by
  rcases List.mem_or_eq_of_mem_set h with h | rfl
  · obtain ⟨h1, h2⟩ := hr r h
    exact ⟨h1, fun cs e => ⟨by have := (h2 cs e).1; omega, (h2 cs e).2⟩⟩
  · exact hd
theorem spoiled_ok {ns : List Int} {k : Int} (k0 : 0 ≤ k) (k1 : k ≤ 100000) {rows : List D} {m : Nat} (hr : ∀ r ∈ rows, Rw m r) (hm : 65 ≤ m) (hm2 : m ≤ 900) (l1 : 1 ≤ rows.length) (l2 : rows.length ≤ 64) :
    ∃ ts ds, F_L_spoiled [.imm false (.scr ns), .imm false (.int k), .imm false (.lst rows)] = .ok (.lst ts) ∧ frzs ts = some (false, ds) ∧ ds.length = rows.length ∧ ∀ r ∈ ds, Rw (m + 1) r := by
  have mk := made_ok hr (by omega) (a0 := .imm false (.scr ns)) (a1 := .imm false (.int k))
  obtain ⟨z, z0, z1, ez⟩ := @draw_ok ns k rows.length k0 (by omega) (by omega)
  obtain ⟨y, y0, y1, ey⟩ := @draw_ok ns (k + 1) 4 (by omega) (by omega) (by omega)
  obtain ⟨d, ed, Rd⟩ := @no_row_ok ns (k + 2) (by omega) (by omega)
  obtain ⟨i, rfl⟩ := Int.eq_ofNat_of_zero_le z0
  have hi : i < rows.length := by omega
  have Rd' : Rw (m + 1) d := ⟨Rd.1, fun cs e => ⟨by have := (Rd.2 cs e).1; omega, (Rd.2 cs e).2⟩⟩
  obtain ⟨TS, eT⟩ : ∃ TS, TS = rows.map toT := ⟨_, rfl⟩
  rw [← eT] at mk
  have hz : frzs TS = some (false, rows) := by rw [eT]; exact frzs_toT rows
  have hn : noBs TS = true := by rw [eT]; exact noBs_toT rows
  have hl : TS.length = rows.length := by rw [eT, List.length_map]
  have hix : ixN rows.length ((i : Nat) : Int) = some i := by
    unfold ixN
    first
      | (rw [if_pos (by omega)]; simp; done)
      | (simp; omega)
      | (split <;> simp_all <;> omega)
  obtain ⟨cq, g, er⟩ := gIx_ds (c := true) hi
  clear er
  have Ri := hr _ (List.getElem_mem hi)
  have eTi : TS[i]? = some (toT rows[i]) := by rw [eT, List.getElem?_map, List.getElem?_eq_getElem hi]; rfl
  -- the row is laid over
  have over : F_L_spoiled [.imm false (.scr ns), .imm false (.int k), .imm false (.lst rows)] = .ok (.lst (TS.set i (.imm false d))) → ∃ ts ds, F_L_spoiled [.imm false (.scr ns), .imm false (.int k), .imm false (.lst rows)] = .ok (.lst ts) ∧ frzs ts = some (false, ds) ∧ ds.length = rows.length ∧ ∀ r ∈ ds, Rw (m + 1) r :=
    fun e => ⟨_, rows.set i d, e, frzs_set hz rfl, by simp, set_Rw hr Rd'⟩
  revert g Ri eTi
  generalize rows[i] = ri
  intro g Ri eTi
  by_cases hy : y = 0
  · subst hy
    refine over ?_
    clear over Rd Rd' hr k0 k1 l1 hm hm2 z1 y0 y1 eT Ri eTi g hi z0
    unfold F_L_spoiled den_L_spoiled
    walk_at "ev*"
    first | done | rfl
  · obtain ⟨hk, hc⟩ := Ri
    cases ri with
    | lst cs =>
      cases cs with
      | nil =>
        refine over ?_
        clear over Rd Rd' hr k0 k1 l1 hm hm2 z1 y0 y1 eT hc hk eTi hi z0
        unfold F_L_spoiled den_L_spoiled
        walk_at "ev*"
        first | done | rfl
      | cons x xs =>
        obtain ⟨hcl, hcp⟩ := hc _ rfl
        have fin_ : ∀ {cs' : List D}, cs'.length ≤ m + 1 → (∀ c ∈ cs', Pk c = true) → F_L_spoiled [.imm false (.scr ns), .imm false (.int k), .imm false (.lst rows)] = .ok (.lst (TS.set i (.lstI cs'))) → ∃ ts ds, F_L_spoiled [.imm false (.scr ns), .imm false (.int k), .imm false (.lst rows)] = .ok (.lst ts) ∧ frzs ts = some (false, ds) ∧ ds.length = rows.length ∧ ∀ r ∈ ds, Rw (m + 1) r :=
          fun {cs'} h1 h2 e => ⟨_, rows.set i (.lst cs'), e, frzs_set hz rfl, by simp, set_Rw hr ⟨rfl, fun cs e => by cases e; exact ⟨h1, h2⟩⟩⟩
        obtain ⟨CS, eC⟩ : ∃ CS, CS = x :: xs := ⟨_, rfl⟩
        have hpos : 0 < CS.length := by rw [eC]; simp
        have hge : gEmp (.lst CS) (.lst []) = some (.bl false) := by rw [eC]; rfl
        rw [← eC] at hcl hcp g eTi
        clear eC hc hk over
        have lC : (D.lst CS).len? = some CS.length := v_len_lst
        obtain ⟨p, p0, p1, ep⟩ := @draw_ok ns (k + 3) CS.length (by omega) (by omega) (by omega)
        obtain ⟨q, rfl⟩ := Int.eq_ofNat_of_zero_le p0
        have hq : q < CS.length := by omega
        obtain ⟨cc, ecc, hcc⟩ := @no_cell_ok ns (k + 4) (by omega) (by omega)
        replace eTi : TS[i]? = some (.lstI CS) := eTi
        have hin : inner TS ((i : Nat) : Int) = some (i, CS) := by
          unfold inner
          rw [hl, hix]
          simp only
          rw [eTi]
        rcases (show y = 1 ∨ y = 2 ∨ y = 3 by omega) with rfl | rfl | rfl
        · refine fin_ (cs' := CS.take q ++ [.int 4] ++ CS.drop q) (by simp; omega) (fun c hcm => ?_) ?_
          · rcases List.mem_append.mp hcm with hcm | hcm
            · rcases List.mem_append.mp hcm with hcm | hcm
              · exact hcp c (List.mem_of_mem_take hcm)
              · rw [List.mem_singleton.mp hcm]; rfl
            · exact hcp c (List.mem_of_mem_drop hcm)
          · have hb : CS.length < 16777216 ∧ (0 : Int) ≤ ((q : Nat) : Int) ∧ ((q : Nat) : Int) < 9223372036854775808 := by omega
            have v := fun (ρ : List T) => @v_insIb ρ 3 i 4 (q : Nat) TS CS hb
            rw [Int.toNat_natCast] at v
            clear fin_ Rd Rd' hr k0 k1 l1 hm hm2 z1 y0 y1 eT hi z0 hcl hcp hpos hq p0 p1 hb hcc ecc eTi
            generalize List.take q CS ++ [D.int 4] ++ List.drop q CS = NEW at *
            unfold F_L_spoiled den_L_spoiled
            walk_at "ev*"
            first | done | rfl
        · refine fin_ (cs' := CS.eraseIdx q) (by have := List.length_eraseIdx_le CS q; omega) (fun c hcm => hcp c (List.mem_of_mem_eraseIdx hcm)) ?_
          · have v := fun (ρ : List T) => @popIb_ok ρ 3 i (q : Nat) TS CS CS[q] (by rw [Int.toNat_natCast, List.getElem?_eq_getElem hq]) (by omega)
            rw [Int.toNat_natCast] at v
            clear fin_ Rd Rd' hr k0 k1 l1 hm hm2 z1 y0 y1 eT hi z0 hcl hcp hpos p0 p1 hcc ecc eTi
            generalize CS[q] = XX at *
            generalize CS.eraseIdx q = NEW at *
            unfold F_L_spoiled den_L_spoiled
            walk_at "ev*"
            first | done | rfl
        · refine fin_ (cs' := CS.set q cc) (by simp; omega) (fun c hcm => ?_) ?_
          · rcases List.mem_or_eq_of_mem_set hcm with hcm | rfl
            · exact hcp c hcm
            · exact hcc
          · clear fin_ Rd Rd' hr k0 k1 l1 hm hm2 z1 y0 y1 eT hi z0 hcl hcp hpos p0 p1 hcc eTi
            unfold F_L_spoiled den_L_spoiled
            walk_at "ev*"
            first | done | rfl
    | non => refine over ?_; clear over Rd Rd' hr k0 k1 l1 hm hm2 z1 y0 y1 eT hc hk eTi hi z0; unfold F_L_spoiled den_L_spoiled; walk_at "ev*"; first | done | rfl
    | bl b => refine over ?_; clear over Rd Rd' hr k0 k1 l1 hm hm2 z1 y0 y1 eT hc hk eTi hi z0; unfold F_L_spoiled den_L_spoiled; walk_at "ev*"; first | done | rfl
    | int b => refine over ?_; clear over Rd Rd' hr k0 k1 l1 hm hm2 z1 y0 y1 eT hc hk eTi hi z0; unfold F_L_spoiled den_L_spoiled; walk_at "ev*"; first | done | rfl
    | str b => refine over ?_; clear over Rd Rd' hr k0 k1 l1 hm hm2 z1 y0 y1 eT hc hk eTi hi z0; unfold F_L_spoiled den_L_spoiled; walk_at "ev*"; first | done | rfl
    | tup b => refine over ?_; clear over Rd Rd' hr k0 k1 l1 hm hm2 z1 y0 y1 eT hc hk eTi hi z0; unfold F_L_spoiled den_L_spoiled; walk_at "ev*"; first | done | rfl
    | dic a b => refine over ?_; clear over Rd Rd' hr k0 k1 l1 hm hm2 z1 y0 y1 eT hc hk eTi hi z0; unfold F_L_spoiled den_L_spoiled; walk_at "ev*"; first | done | rfl
    | _ => simp [Pk] at hk
theorem lfD_pl (r : Option (Option Nat)) : (lfD r).pl 8 = true := by
  cases r with
  | none => rfl
  | some r =>
    refine pl_tup (by simp) fun d hd => ?_
    rcases List.mem_cons.mp hd with rfl | hd
    · show PyData.strOk _ = true
      decide +kernel
    · rw [List.mem_singleton.mp hd]
      cases r <;> rfl
/-- what is asked and what is due are alike -/
theorem ask_due {d : D} {m : Nat} (P : Ps m d) (hm : m ≤ 1000) : ∃ U V : D, F_L_fault [.imm false d] = .ok (.imm false U) ∧ F_L_asked [.imm false d] = .ok (.imm false V) ∧ F_L_alike [.imm false V, .imm false V] = .ok (.imm false (.bl true)) ∧
    ((U = .non ∧ F_L_packed [.imm false d] = .ok (.imm false V)) ∨ ∃ xs, U = .tup xs ∧ V = .tup xs) := by
  have lf := lfault_ok P hm false
  cases h : fl04 d with
  | none =>
    rw [h] at lf
    obtain ⟨rs, w, hh, R, rfl⟩ := good_rows h
    exact ⟨.non, picD w rs, lf, asked_good R false, alike_ok (picD_pl (by rw [R.len]; exact R.h64)), .inl ⟨rfl, packed_ok R⟩⟩
  | some r =>
    rw [h] at lf
    exact ⟨_, _, lf, asked_bad P hm h false, alike_ok (lfD_pl (some r)), .inr ⟨_, rfl, rfl⟩⟩
theorem rows_Rw {rs : List (List Cell)} {w h : Nat} (R : Rect rs w h) : ∀ r ∈ rs.map rowD, Rw 65 r := fun r hr => by
  obtain ⟨x, hx, rfl⟩ := List.mem_map.mp hr
  refine ⟨rfl, fun cs e => ?_⟩
  unfold rowD at e
  cases e
  refine ⟨by rw [List.length_map, (R.row x hx).1]; have := R.w64; omega, fun c hc => ?_⟩
  obtain ⟨y, _, rfl⟩ := List.mem_map.mp hc
  cases y <;> rfl
theorem main : LawTrue F_law := by
  intro ns hn
  refine ⟨false, ?_⟩
  obtain ⟨w, h, w1, w2, v1, v2, es⟩ := @sides_ok ns 0 (by omega) (by omega)
  obtain ⟨rs, R, er⟩ := @rows_ok ns 3 w h (by omega) (by omega) w1 w2 v1 v2
  have lr : (rs.map rowD).length = h := by rw [List.length_map, R.len]
  obtain ⟨ts1, ds1, e1, f1, l1, r1⟩ := @spoiled_ok ns 300 (by omega) (by omega) (rs.map rowD) 65 (rows_Rw R) (by omega) (by omega) (by omega) (by omega)
  obtain ⟨ts2, ds2, e2, f2, l2, r2⟩ := @spoiled_ok ns 330 (by omega) (by omega) ds1 66 r1 (by omega) (by omega) (by omega) (by omega)
  obtain ⟨d3, e3, P3⟩ := no_rows_ok R (ns := ns) (k := 351) (by omega) (by omega)
  obtain ⟨y1, y10, y11, ey1⟩ := @draw_ok ns 320 2 (by omega) (by omega) (by omega)
  obtain ⟨y2, y20, y21, ey2⟩ := @draw_ok ns 350 5 (by omega) (by omega) (by omega)
  have P1 : Ps 67 (.lst ds1) := ⟨rfl, fun rows e => by cases e; exact ⟨by omega, fun r hr => ⟨(r1 r hr).1, fun cs e => ⟨by have := ((r1 r hr).2 cs e).1; omega, ((r1 r hr).2 cs e).2⟩⟩⟩⟩
  have P2 : Ps 67 (.lst ds2) := ⟨rfl, fun rows e => by cases e; exact ⟨by omega, r2⟩⟩
  have P3' : Ps 67 d3 := ⟨P3.1, fun rows e => ⟨by have := (P3.2 rows e).1; omega, fun r hr => ⟨((P3.2 rows e).2 r hr).1, fun cs e' => ⟨by have := ((((P3.2 rows e).2 r hr)).2 cs e').1; omega, ((((P3.2 rows e).2 r hr)).2 cs e').2⟩⟩⟩⟩
  have ag := asked_good R false
  have pg := packed_ok R
  have al : F_L_alike [.imm false (picD w rs), .imm false (picD w rs)] = .ok (.imm false (.bl true)) := alike_ok (picD_pl (by rw [R.len]; exact R.h64))
  obtain ⟨U1, V1, a1, b1, c1, o1⟩ := ask_due P1 (by omega)
  obtain ⟨U2, V2, a2, b2, c2, o2⟩ := ask_due P2 (by omega)
  obtain ⟨U3, V3, a3, b3, c3, o3⟩ := ask_due P3' (by omega)
  have w64 : (w : Int) ≤ 64 := by omega
  have h64 : (h : Int) ≤ 64 := by omega
  clear P1 P2 P3 P3' r1 r2 l1 l2 lr R hn w1 w2 v1 v2 y10 y11 y20 y21
  generalize picD w rs = PD at *
  unfold rowsD at *
  generalize rs.map rowD = RM at *
  by_cases hy2 : y2 = 0
  · subst hy2
    clear a1 b1 c1 o1 a2 b2 c2 o2
    by_cases hy1 : y1 = 0
    · subst hy1
      rcases o3 with ⟨rfl, o3⟩ | ⟨xs, rfl, rfl⟩
      · unfold F_law den_law
        walk_at "ev*"
        first | done | rfl
      · unfold F_law den_law
        walk_at "ev*"
        first | done | rfl
    · clear e2 f2
      rcases o3 with ⟨rfl, o3⟩ | ⟨xs, rfl, rfl⟩
      · unfold F_law den_law
        walk_at "ev*"
        first | done | rfl
      · unfold F_law den_law
        walk_at "ev*"
        first | done | rfl
  · clear a3 b3 c3 o3 e3
    by_cases hy1 : y1 = 0
    · subst hy1
      clear a1 b1 c1 o1
      rcases o2 with ⟨rfl, o2⟩ | ⟨xs, rfl, rfl⟩
      · unfold F_law den_law
        walk_at "ev*"
        first | done | rfl
      · unfold F_law den_law
        walk_at "ev*"
        first | done | rfl
    · clear e2 f2 a2 b2 c2 o2
      rcases o1 with ⟨rfl, o1⟩ | ⟨xs, rfl, rfl⟩
      · unfold F_law den_law
        walk_at "ev*"
        first | done | rfl
      · unfold F_law den_law
        walk_at "ev*"
        first | done | rfl

end Gb
open PySem PySem.W PyProof.Rows in
theorem PySem.Challenge.cw_glowboard_k04_what_makes_no_picture_holds : PySem.Challenge.rw_glowboard_k04_what_makes_no_picture.Holds := by
  w_on; o_law; k_head; (case hw => w_witness2)
  k_fill
  refine' Gb.law_walk (l := PySem.Challenge.rw_glowboard_k04_what_makes_no_picture) (k := 11) (x := "_law_script") (ca := ⟨fun i => ([_, 0, 0, _, _, 0, _, _, _, 0, 0, 0, _, _, 0, 0] : List Addr).getD i 0, []⟩) Gb.main rfl rfl rfl ⟨rfl, by decide, by decide⟩ (fun w h Y => PySem.W.kIn_of Y) ?F
  case F =>
    intro w mg fa h KX G hmg
    refine' Gb.all_mk KX G hmg ?z_ValueError_ ?z_all_ ?z_bool_ ?z_int_ ?z_isinstance ?z_len ?z_list_ ?z_range ?z_reversed ?z_str_ ?z_tuple_ ?g_COLOURS ?g_MOST ?a0 ?l0 ?c0 ?k0 ?a1 ?l1 ?c1 ?k1 ?a2 ?l2 ?c2 ?k2 ?a3 ?l3 ?c3 ?k3 ?a4 ?l4 ?c4 ?k4 ?a5 ?l5 ?c5 ?k5 ?a6 ?l6 ?c6 ?k6 ?a7 ?l7 ?c7 ?k7 ?a8 ?l8 ?c8 ?k8 ?a9 ?l9 ?c9 ?k9 ?a10 ?l10 ?c10 ?k10 ?a11 ?l11 ?c11 ?k11 ?a12 ?l12 ?c12 ?k12 ?a13 ?l13 ?c13 ?k13 ?a14 ?l14 ?c14 ?k14 ?a15 ?l15 ?c15 ?k15 ?a16 ?l16 ?c16 ?k16 ?a17 ?l17 ?c17 ?k17 ?a18 ?l18 ?c18 ?k18 ?a19 ?l19 ?c19 ?k19 ?gX0 ?hca0 ?tyX0 ?hdX0 ?sbX0 ?gX3 ?hca3 ?tyX3 ?hdX3 ?sbX3 ?gX4 ?hca4 ?tyX4 ?hdX4 ?sbX4 ?gX6 ?hca6 ?tyX6 ?hdX6 ?sbX6 ?gX7 ?hca7 ?tyX7 ?hdX7 ?sbX7 ?gX8 ?hca8 ?tyX8 ?hdX8 ?sbX8 ?gX12 ?hca12 ?tyX12 ?hdX12 ?sbX12 ?gX13 ?hca13 ?tyX13 ?hdX13 ?sbX13 ?hnX ?htX ?gaG ?rdG ?fcG ?xlX7 ?saX7 ?aiX7 ?tiX7 ?liX7 ?ciX7 ?kiX7 ?noX7_row ?kpX7 ?haX7 ?hbX7 ?hcX7 ?hmX7 ?sX7_0 ?sX7_3 ?sX7_4 ?sX7_6 ?sX7_7 ?sX7_8 ?sX7_12 ?sX7_13 ?sX7_100
    (case z_ValueError_ => k_is)
    (case z_all_ => k_is)
    (case z_bool_ => k_is)
    (case z_int_ => k_is)
    (case z_isinstance => k_is)
    (case z_len => k_is)
    (case z_list_ => k_is)
    (case z_range => k_is)
    (case z_reversed => k_is)
    (case z_str_ => k_is)
    (case z_tuple_ => k_is)
    (case g_COLOURS => k_is)
    (case g_MOST => k_is)
    (case a0 => k_is)
    (case l0 => k_is)
    (case c0 => k_is)
    (case k0 => k_is)
    (case a1 => k_is)
    (case l1 => k_is)
    (case c1 => k_is)
    (case k1 => k_is)
    (case a2 => k_is)
    (case l2 => k_is)
    (case c2 => k_is)
    (case k2 => k_is)
    (case a3 => k_is)
    (case l3 => k_is)
    (case c3 => k_is)
    (case k3 => k_is)
    (case a4 => k_is)
    (case l4 => k_is)
    (case c4 => k_is)
    (case k4 => k_is)
    (case a5 => k_is)
    (case l5 => k_is)
    (case c5 => k_is)
    (case k5 => k_is)
    (case a6 => k_is)
    (case l6 => k_is)
    (case c6 => k_is)
    (case k6 => k_is)
    (case a7 => k_is)
    (case l7 => k_is)
    (case c7 => k_is)
    (case k7 => k_is)
    (case a8 => k_is)
    (case l8 => k_is)
    (case c8 => k_is)
    (case k8 => k_is)
    (case a9 => k_is)
    (case l9 => k_is)
    (case c9 => k_is)
    (case k9 => k_is)
    (case a10 => k_is)
    (case l10 => k_is)
    (case c10 => k_is)
    (case k10 => k_is)
    (case a11 => k_is)
    (case l11 => k_is)
    (case c11 => k_is)
    (case k11 => k_is)
    (case a12 => k_is)
    (case l12 => k_is)
    (case c12 => k_is)
    (case k12 => k_is)
    (case a13 => k_is)
    (case l13 => k_is)
    (case c13 => k_is)
    (case k13 => k_is)
    (case a14 => k_is)
    (case l14 => k_is)
    (case c14 => k_is)
    (case k14 => k_is)
    (case a15 => k_is)
    (case l15 => k_is)
    (case c15 => k_is)
    (case k15 => k_is)
    (case a16 => k_is)
    (case l16 => k_is)
    (case c16 => k_is)
    (case k16 => k_is)
    (case a17 => k_is)
    (case l17 => k_is)
    (case c17 => k_is)
    (case k17 => k_is)
    (case a18 => k_is)
    (case l18 => k_is)
    (case c18 => k_is)
    (case k18 => k_is)
    (case a19 => k_is)
    (case l19 => k_is)
    (case c19 => k_is)
    (case k19 => k_is)
    (case gX0 => k_is)
    (case hca0 => rfl)
    (case tyX0 => k_is)
    (case hdX0 => k_is)
    (case sbX0 => k_is)
    (case gX3 => k_is)
    (case hca3 => rfl)
    (case tyX3 => k_is)
    (case hdX3 => k_is)
    (case sbX3 => k_is)
    (case gX4 => k_is)
    (case hca4 => rfl)
    (case tyX4 => k_is)
    (case hdX4 => k_is)
    (case sbX4 => k_is)
    (case gX6 => k_is)
    (case hca6 => rfl)
    (case tyX6 => k_is)
    (case hdX6 => k_is)
    (case sbX6 => k_is)
    (case gX7 => k_is)
    (case hca7 => rfl)
    (case tyX7 => k_is)
    (case hdX7 => k_is)
    (case sbX7 => k_is)
    (case gX8 => k_is)
    (case hca8 => rfl)
    (case tyX8 => k_is)
    (case hdX8 => k_is)
    (case sbX8 => k_is)
    (case gX12 => k_is)
    (case hca12 => rfl)
    (case tyX12 => k_is)
    (case hdX12 => k_is)
    (case sbX12 => k_is)
    (case gX13 => k_is)
    (case hca13 => rfl)
    (case tyX13 => k_is)
    (case hdX13 => k_is)
    (case sbX13 => k_is)
    (case hnX => k_is)
    (case htX => k_is)
    (case gaG => k_is)
    (case rdG => k_is)
    (case fcG => k_is)
    (case xlX7 => k_is)
    (case saX7 => k_is)
    (case aiX7 => k_is)
    (case tiX7 => k_is)
    (case liX7 => k_is)
    (case ciX7 => k_is)
    (case kiX7 => k_is)
    (case noX7_row => k_is)
    (case kpX7 => k_is)
    (case haX7 => k_is)
    (case hbX7 => k_is)
    (case hcX7 => k_is)
    (case hmX7 => k_is)
    (case sX7_0 => k_is)
    (case sX7_3 => k_is)
    (case sX7_4 => k_is)
    (case sX7_6 => k_is)
    (case sX7_7 => k_is)
    (case sX7_8 => k_is)
    (case sX7_12 => k_is)
    (case sX7_13 => k_is)
    (case sX7_100 => k_is)
#print axioms PySem.Challenge.cw_glowboard_k04_what_makes_no_picture_holds
