import PyProof.Rows.All
import Wide.All
import OpenK.AllK
import Wide.FinOn
import HandS.ForMost
import HandS.Dict
import KE.KDictCopyH
import HandS.Lambda
import HandS.ForExc
import HandS.CallSlots
import HandS.Rev
import HandS.RevRange
import HandS.Zip
import HandS.Defaults
import HandS.WordsExc
import HandS.Ends
import HandS.Wide
import HandS.WideBits
import HandS.TupAny
import HandS.TupLe
import HandS.IsInst
import HandS.More
import HandS.RevTup
import PyProof.ListRange
import PyProof.ListNew
import KE.KRevIter
import HandS.Comp
import HandS.ExcIs
import HandS.ExcField
import HandS.Small
import HandS.RaiseMore
import HandS.Deep
import PyProof.ReprRoads
import PyProof.ReprBulk
import PyProof.FitsInt
import HandS.Iter
import PyProof.Rows.ChunkEnd
import KE.DataMinMax
import KE.SortData
import HandS.Conv
import KE.SortKeyHeap
import KE.KLam
import HandS.ExcValue
import HandS.Nested
import HandS.SortInts
import KE.KBits
import KE.BitLaws
import KE.OsArith
import HandS.EndTab
import HandS.StrMore
import HandS.Replace
import HandS.ExcInit
import HandS.Codes
import KE.KDictZip
import HandS.TryOnly
import HandS.Strs
import KE.GoesMore
import KE.GoesEnum
import HandS.SetFor
import PySem.Challenge.RW_glowboard_k75_scenes_written
set_option Elab.async false
set_option linter.all false
set_option maxRecDepth 100000
set_option maxHeartbeats 4000000
namespace L2
open PySem PySem.Spec PyProof.Rows
/-! dicts whose keys are whole numbers and None -/
abbrev OKey := Option Int
def lfK : OKey → Leaf
  | none => .none
  | some i => .num i
theorem lfK_inj {a b : OKey} (h : lfK a = lfK b) : a = b := by
  cases a <;> cases b <;> first | rfl | (injection h with h; rw [h]) | cases h
def OKV (kvs : List (OKey × V)) (vs : List (Leaf × Value)) : Prop := Paired (fun (p : OKey × V) (q : Leaf × Value) => q.1 = lfK p.1 ∧ RelV p.2 q.2) kvs vs
def LDo (a : Addr) (kvs : List (OKey × V)) : HO := .ext fun h => kvs.length ≤ sizeLine ∧ (a == sysModules) = false ∧ ∃ vs : List (Leaf × Value), OKV kvs vs ∧ ∀ P w, h.DictOf (leafKind P w) a vs
def getO (k : OKey) : List (OKey × V) → Option V
  | [] => none
  | p :: ps => if p.1 = k then some p.2 else getO k ps
def putO (k : OKey) (v : V) : List (OKey × V) → List (OKey × V)
  | [] => [(k, v)]
  | p :: ps => if p.1 = k then (p.1, v) :: ps else p :: putO k v ps
theorem OKV.keys {kvs : List (OKey × V)} {vs : List (Leaf × Value)} (h : OKV kvs vs) : vs.map (·.1) = kvs.map fun p => lfK p.1 := by
  unfold OKV at h
  induction h with
  | nil => rfl
  | @cons p q ps qs h t ih => rw [List.map_cons, List.map_cons, ih, h.1]
theorem OKV.val {kvs : List (OKey × V)} {vs : List (Leaf × Value)} (h : OKV kvs vs) (k : OKey) : RelO (getO k kvs) (valueAt vs (lfK k)) := by
  unfold OKV at h
  induction h with
  | nil => exact True.intro
  | @cons p q ps qs h t ih =>
    unfold getO valueAt
    by_cases e : p.1 = k
    · rw [if_pos e, List.find?_cons_of_pos (by simp [h.1, e])]
      exact h.2
    · rw [if_neg e, List.find?_cons_of_neg (by simp [h.1]; exact fun z => e (lfK_inj z))]
      exact ih
theorem OKV.put {kvs : List (OKey × V)} {vs : List (Leaf × Value)} (h : OKV kvs vs) (hn : (vs.map (·.1)).Nodup) (k : OKey) {v : V} {r : Value} (rv : RelV v r) : OKV (putO k v kvs) (stored vs (lfK k) r) := by
  unfold OKV at h ⊢
  induction h with
  | nil => exact .cons ⟨rfl, rv⟩ .nil
  | @cons p q ps qs h t ih =>
    rw [List.map_cons] at hn
    have hn' := List.nodup_cons.mp hn
    unfold putO
    by_cases e : p.1 = k
    · rw [if_pos e]
      have eq1 : q.1 = lfK k := by rw [h.1, e]
      unfold stored
      rw [if_pos (by rw [List.any_cons]; simp [eq1]), List.map_cons, if_pos eq1, map_store_of_not_mem qs _ r (by rw [← eq1]; exact hn'.1)]
      exact .cons ⟨h.1, rv⟩ t
    · rw [if_neg e]
      have ne1 : ¬ q.1 = lfK k := fun z => e (lfK_inj (h.1.symm.trans z))
      have es : stored (q :: qs) (lfK k) r = q :: stored qs (lfK k) r := by
        unfold stored
        rw [List.any_cons, decide_eq_false ne1, Bool.false_or]
        split
        · rw [List.map_cons, if_neg ne1]
        · rfl
      rw [es]
      exact .cons h (ih hn'.2)
section
variable {X : Cx} {pins : List (Addr × Obj)} {σ : St} {H : Hp} {s : Shared} {a : Addr} {kvs : List (OKey × V)}
theorem Inv.ld (I : Inv X pins σ H s) (e : H a = some (LDo a kvs)) : kvs.length ≤ sizeLine ∧ (a == sysModules) = false ∧ ∃ vs : List (Leaf × Value), OKV kvs vs ∧ s.heap.DictOf (leafKind X.prog X.w) a vs := by
  obtain ⟨⟨z, hd, vs, r, d⟩, _⟩ := (show ObjOk X.prog X.w H s.heap a (LDo a kvs) from I.hok a _ e)
  exact ⟨z, hd, vs, r, d _ _⟩
end
section
variable {X : Cx} {o i e value : Expr} {pos pos' tpos : Pos} {td ty tv : TE}
end
end L2

namespace Gb
open PySem PySem.Spec L2

/-! data that stands for ever; what a slot holds -/
inductive D where
  | non | bl (b : Bool) | int (i : Int) | str (s : Str) | ty (n : String)
  | lst (xs : List D) | tup (xs : List D) | scr (ns : List Int)
  | dic (ks : List Key) (vs : List D)
  | obj (c : Nat) (ns : List Str) (vs : List D)
  | exn (a dd : Nat) (ns : List Str) (vs : List D)
inductive T where
  | dead
  | imm (b : Bool) (d : D)
  | lstI (ds : List D)
  | lst (ts : List T)
  | dicI (ks : List Key) (ds : List D)
  | dic (ks : List (Option Int)) (ds : List D)
  | obj (c : Nat) (ns : List Str) (ts : List T)
/-- addresses: of the classes; of the tables of code objects, with the names of the objects within -/
structure Cad where
  a : Nat → Addr
  T : List (Addr × Str)
instance : CoeFun Cad (fun _ => Nat → Addr) := ⟨Cad.a⟩
structure Ct where
  K : PySem.W.Frag
  ca : Cad
structure Wd where
  I : Addr → Prop
  B : Addr → Prop
  R : Addr → Prop
def Wd.im (w : Wd) (b : Bool) : Addr → Prop := fun a => w.I a ∨ (b = true ∧ w.B a)

def KL (K : PySem.W.Frag) (a : Addr) (xs : List V) : Prop :=
  ∃ (o : Obj) (its : Array Value) (n : Nat), K.lookup a = some o ∧ o.cls = .type "list" ∧ o.dict = none ∧ o.data = .seq its n ∧ its.size ≤ sizeLine ∧ Vals xs its.toList
def KT (K : PySem.W.Frag) (a : Addr) (xs : List V) : Prop :=
  ∃ (o : Obj) (its : Array Value) (n : Nat), K.lookup a = some o ∧ o.cls = .type "tuple" ∧ o.data = .seq its n ∧ its.size ≤ sizeLine ∧ Vals xs its.toList
def LstAt (C : Ct) (H : Hp) (A : Addr → Prop) (a : Addr) (vs : List V) : Prop := (A a ∧ Rd H a (.lst vs)) ∨ KL C.K a vs
def TupAt (C : Ct) (H : Hp) (A : Addr → Prop) (a : Addr) (vs : List V) : Prop := (A a ∧ Rd H a (.tup vs)) ∨ KT C.K a vs
section
variable {C : Ct} {H H' : Hp} {A A' : Addr → Prop} {a : Addr} {vs : List V}
theorem LstAt.sq (h : LstAt C H A a vs) : SqL C.K H a vs := h.elim (fun z => .inl z.2) .inr
theorem TupAt.sq (h : TupAt C H A a vs) : SqT C.K H a vs := h.elim (fun z => .inl z.2) .inr
theorem Rd.same {u : HO} (h : Rd H a u) (e : H' a = H a) : Rd H' a u := by
  unfold Rd; rw [e]; exact h
theorem LstAt.mono (h : LstAt C H A a vs) (m : ∀ a, A a → A' a ∧ H' a = H a) : LstAt C H' A' a vs :=
  h.elim (fun z => .inl ⟨(m a z.1).1, Rd.same z.2 (m a z.1).2⟩) .inr
theorem TupAt.mono (h : TupAt C H A a vs) (m : ∀ a, A a → A' a ∧ H' a = H a) : TupAt C H' A' a vs :=
  h.elim (fun z => .inl ⟨(m a z.1).1, Rd.same z.2 (m a z.1).2⟩) .inr
end

mutual
def RD (C : Ct) (H : Hp) (A : Addr → Prop) : D → V → Prop
  | .non, v => v = .non
  | .bl b, v => v = .bl b
  | .int i, v => v = .int i
  | .str s, v => v = .str s
  | .ty n, v => v = .ty n
  | .lst xs, v => ∃ a vs, v = .ref a ∧ (A a ∧ H a = some (.lst vs)) ∧ RDs C H A xs vs
  | .tup xs, v => ∃ a vs, v = .ref a ∧ (A a ∧ H a = some (.tup vs)) ∧ RDs C H A xs vs
  | .scr ns, v => ∃ a, v = .ref a ∧ LstAt C H A a (ns.map V.int)
  | .dic ks xs, v => ∃ a kvs, v = .ref a ∧ A a ∧ Rd H a (.dK kvs) ∧ kvs.map (·.1) = ks ∧ RDs C H A xs (kvs.map (·.2))
  | .obj c ns xs, v => ∃ a dx fs, v = .ref a ∧ A a ∧ A dx ∧ H a = some (.ins (C.ca c) dx fs) ∧ H dx = some (.own a) ∧ fs.map (·.1) = ns ∧ RDs C H A xs (fs.map (·.2))
  | .exn a dd ns xs, v => v = .ref a ∧ (ns = [] ∨ ∃ fs, A dd ∧ H dd = some (.xd fs) ∧ fs.map (·.1) = ns ∧ RDs C H A xs (fs.map (·.2)))
def RDs (C : Ct) (H : Hp) (A : Addr → Prop) : List D → List V → Prop
  | [], vs => vs = []
  | d :: ds, vs => ∃ v r, vs = v :: r ∧ RD C H A d v ∧ RDs C H A ds r
end
mutual
theorem RD_mono {C : Ct} {H H' : Hp} {A A' : Addr → Prop} (m : ∀ a, A a → A' a ∧ H' a = H a) : (d : D) → (v : V) → RD C H A d v → RD C H' A' d v
  | .non, _, h => h
  | .bl _, _, h => h
  | .int _, _, h => h
  | .str _, _, h => h
  | .ty _, _, h => h
  | .lst xs, v, h => by
    obtain ⟨a, vs, e, ⟨l1, l2⟩, r⟩ := h
    exact ⟨a, vs, e, ⟨(m a l1).1, (m a l1).2.trans l2⟩, RDs_mono m xs vs r⟩
  | .tup xs, v, h => by
    obtain ⟨a, vs, e, ⟨l1, l2⟩, r⟩ := h
    exact ⟨a, vs, e, ⟨(m a l1).1, (m a l1).2.trans l2⟩, RDs_mono m xs vs r⟩
  | .scr ns, v, h => by
    obtain ⟨a, e, l⟩ := h
    exact ⟨a, e, l.mono m⟩
  | .dic ks xs, v, h => by
    obtain ⟨a, kvs, e, l, g, k, r⟩ := h
    exact ⟨a, kvs, e, (m a l).1, Rd.same g (m a l).2, k, RDs_mono m xs _ r⟩
  | .obj c ns xs, v, h => by
    obtain ⟨a, dx, fs, e, l, l2, g, g2, k, r⟩ := h
    exact ⟨a, dx, fs, e, (m a l).1, (m dx l2).1, (m a l).2.trans g, (m dx l2).2.trans g2, k, RDs_mono m xs _ r⟩
  | .exn a dd ns xs, v, h => by
    obtain ⟨e, h⟩ := h
    refine ⟨e, ?_⟩
    rcases h with h | ⟨fs, l, g, k, r⟩
    · exact .inl h
    · exact .inr ⟨fs, (m dd l).1, (m dd l).2.trans g, k, RDs_mono m xs _ r⟩
theorem RDs_mono {C : Ct} {H H' : Hp} {A A' : Addr → Prop} (m : ∀ a, A a → A' a ∧ H' a = H a) : (ds : List D) → (vs : List V) → RDs C H A ds vs → RDs C H' A' ds vs
  | [], _, h => h
  | d :: ds, vs, h => by
    obtain ⟨v, r, e, h1, h2⟩ := h
    exact ⟨v, r, e, RD_mono m d v h1, RDs_mono m ds r h2⟩
end
theorem RDs.length {C : Ct} {H : Hp} {A : Addr → Prop} : ∀ {ds : List D} {vs : List V}, RDs C H A ds vs → ds.length = vs.length
  | [], vs, h => by
    have e : vs = [] := h
    rw [e]; rfl
  | d :: ds, vs, h => by
    obtain ⟨v, r, rfl, _, h2⟩ := h
    simp [RDs.length h2]
theorem RDs.get {C : Ct} {H : Hp} {A : Addr → Prop} : ∀ {ds : List D} {vs : List V} {i : Nat} {d : D}, RDs C H A ds vs → ds[i]? = some d → ∃ v, vs[i]? = some v ∧ RD C H A d v
  | [], vs, i, d, h, e => by simp at e
  | d' :: ds, vs, 0, d, h, e => by
    obtain ⟨v, r, rfl, h1, h2⟩ := h
    simp at e; subst e
    exact ⟨v, by simp, h1⟩
  | d' :: ds, vs, i + 1, d, h, e => by
    obtain ⟨v, r, rfl, h1, h2⟩ := h
    simp at e
    obtain ⟨u, h3, h4⟩ := RDs.get (i := i) h2 e
    exact ⟨u, by simpa using h3, h4⟩
theorem RDs.append {C : Ct} {H : Hp} {A : Addr → Prop} : ∀ {ds es : List D} {vs us : List V}, RDs C H A ds vs → RDs C H A es us → RDs C H A (ds ++ es) (vs ++ us)
  | [], es, vs, us, h, g => by
    have e : vs = [] := h
    subst e; exact g
  | d :: ds, es, vs, us, h, g => by
    obtain ⟨v, r, rfl, h1, h2⟩ := h
    exact ⟨v, r ++ us, rfl, h1, RDs.append h2 g⟩
theorem RDs.split {C : Ct} {H : Hp} {A : Addr → Prop} : ∀ {ds es : List D} {vs : List V}, RDs C H A (ds ++ es) vs → ∃ v1 v2, vs = v1 ++ v2 ∧ RDs C H A ds v1 ∧ RDs C H A es v2
  | [], es, vs, h => ⟨[], vs, rfl, rfl, h⟩
  | d :: ds, es, vs, h => by
    obtain ⟨v, r, rfl, h1, h2⟩ := h
    obtain ⟨v1, v2, rfl, h3, h4⟩ := RDs.split h2
    exact ⟨v :: v1, v2, rfl, ⟨v, v1, rfl, h1, h3⟩, h4⟩
theorem RDs.take {C : Ct} {H : Hp} {A : Addr → Prop} : ∀ {ds : List D} {vs : List V} (n : Nat), RDs C H A ds vs → RDs C H A (ds.take n) (vs.take n)
  | ds, vs, 0, _ => by simp [RDs]
  | [], vs, n + 1, h => by
    have e : vs = [] := h
    subst e; simp [RDs]
  | d :: ds, vs, n + 1, h => by
    obtain ⟨v, r, rfl, h1, h2⟩ := h
    exact ⟨v, r.take n, by simp, h1, RDs.take n h2⟩
theorem RDs.drop {C : Ct} {H : Hp} {A : Addr → Prop} : ∀ {ds : List D} {vs : List V} (n : Nat), RDs C H A ds vs → RDs C H A (ds.drop n) (vs.drop n)
  | ds, vs, 0, h => by simpa using h
  | [], vs, n + 1, h => by
    have e : vs = [] := h
    subst e; simp [RDs]
  | d :: ds, vs, n + 1, h => by
    obtain ⟨v, r, rfl, h1, h2⟩ := h
    simpa using RDs.drop n h2
theorem RDs.set {C : Ct} {H : Hp} {A : Addr → Prop} {d : D} {v : V} (hd : RD C H A d v) : ∀ {ds : List D} {vs : List V} (i : Nat), RDs C H A ds vs → RDs C H A (ds.set i d) (vs.set i v)
  | [], vs, i, h => by
    have e : vs = [] := h
    subst e; simp [RDs]
  | d' :: ds, vs, 0, h => by
    obtain ⟨v', r, rfl, h1, h2⟩ := h
    exact ⟨v, r, by simp, hd, h2⟩
  | d' :: ds, vs, i + 1, h => by
    obtain ⟨v', r, rfl, h1, h2⟩ := h
    exact ⟨v', r.set i v, by simp, h1, RDs.set hd i h2⟩
theorem RDs.reverse {C : Ct} {H : Hp} {A : Addr → Prop} : ∀ {ds : List D} {vs : List V}, RDs C H A ds vs → RDs C H A ds.reverse vs.reverse
  | [], vs, h => by
    have e : vs = [] := h
    subst e; simp [RDs]
  | d :: ds, vs, h => by
    obtain ⟨v, r, rfl, h1, h2⟩ := h
    rw [List.reverse_cons, List.reverse_cons]
    exact RDs.append (RDs.reverse h2) ⟨v, [], rfl, h1, rfl⟩
theorem RDs.ints {C : Ct} {H : Hp} {A : Addr → Prop} : ∀ {ns : List Int} {vs : List V}, RDs C H A (ns.map D.int) vs → vs = ns.map V.int
  | [], vs, h => h
  | n :: ns, vs, h => by
    obtain ⟨v, r, rfl, h1, h2⟩ := h
    have e : v = .int n := h1
    rw [e, RDs.ints h2]; rfl
theorem RDs.of_ints {C : Ct} {H : Hp} {A : Addr → Prop} : ∀ (ns : List Int), RDs C H A (ns.map D.int) (ns.map V.int)
  | [] => rfl
  | n :: ns => ⟨.int n, ns.map V.int, rfl, rfl, RDs.of_ints ns⟩

/-! slots -/
mutual
def RT (C : Ct) (w : Wd) (H : Hp) : T → Option V → List Addr → Prop
  | .dead, _, fp => fp = []
  | .imm b d, v, fp => ∃ x, v = some x ∧ RD C H (w.im b) d x ∧ fp = []
  | .lstI ds, v, fp => ∃ a vs, v = some (.ref a) ∧ H a = some (.lst vs) ∧ RDs C H w.I ds vs ∧ fp = [a]
  | .lst ts, v, fp => ∃ a vs f, v = some (.ref a) ∧ H a = some (.lst vs) ∧ RTs C w H ts (vs.map some) f ∧ fp = a :: f
  | .dicI ks ds, v, fp => ∃ a kvs, v = some (.ref a) ∧ H a = some (.dK kvs) ∧ kvs.map (·.1) = ks ∧ RDs C H w.I ds (kvs.map (·.2)) ∧ fp = [a]
  | .dic ks ds, v, fp => ∃ a kvs, v = some (.ref a) ∧ H a = some (LDo a kvs) ∧ kvs.map (·.1) = ks ∧ RDs C H w.I ds (kvs.map (·.2)) ∧ fp = [a]
  | .obj c ns ts, v, fp => ∃ a dx fs f, v = some (.ref a) ∧ H a = some (.ins (C.ca c) dx fs) ∧ H dx = some (.own a) ∧ fs.map (·.1) = ns ∧ RTs C w H ts (fs.map fun p => some p.2) f ∧ fp = a :: dx :: f
def RTs (C : Ct) (w : Wd) (H : Hp) : List T → List (Option V) → List Addr → Prop
  | [], vs, fp => vs = [] ∧ fp = []
  | t :: ts, vs, fp => ∃ v r f1 f2, vs = v :: r ∧ RT C w H t v f1 ∧ RTs C w H ts r f2 ∧ fp = f1 ++ f2
end
mutual
theorem RT_mono {C : Ct} {w w' : Wd} {H H' : Hp} (m : ∀ a, w.I a → w'.I a ∧ H' a = H a) (mb : ∀ a, w.B a → w'.B a ∧ H' a = H a) : (t : T) → (v : Option V) → (fp : List Addr) → (∀ a ∈ fp, H' a = H a) → RT C w H t v fp → RT C w' H' t v fp
  | .dead, _, _, _, h => h
  | .imm b d, v, fp, k, h => by
    obtain ⟨x, e, r, f⟩ := h
    refine ⟨x, e, RD_mono (fun a z => ?_) d x r, f⟩
    rcases z with z | ⟨z1, z2⟩
    · exact ⟨.inl (m a z).1, (m a z).2⟩
    · exact ⟨.inr ⟨z1, (mb a z2).1⟩, (mb a z2).2⟩
  | .lstI ds, v, fp, k, h => by
    obtain ⟨a, vs, e, g, r, rfl⟩ := h
    exact ⟨a, vs, e, (k a (by simp)).trans g, RDs_mono m ds vs r, rfl⟩
  | .lst ts, v, fp, k, h => by
    obtain ⟨a, vs, f, e, g, r, rfl⟩ := h
    exact ⟨a, vs, f, e, (k a (by simp)).trans g, RTs_mono m mb ts _ f (fun b hb => k b (List.mem_cons_of_mem _ hb)) r, rfl⟩
  | .dicI ks ds, v, fp, k, h => by
    obtain ⟨a, kvs, e, g, q, r, rfl⟩ := h
    exact ⟨a, kvs, e, (k a (by simp)).trans g, q, RDs_mono m ds _ r, rfl⟩
  | .dic ks ds, v, fp, k, h => by
    obtain ⟨a, kvs, e, g, q, r, rfl⟩ := h
    exact ⟨a, kvs, e, (k a (by simp)).trans g, q, RDs_mono m ds _ r, rfl⟩
  | .obj c ns ts, v, fp, k, h => by
    obtain ⟨a, dx, fs, f, e, g, g2, q, r, rfl⟩ := h
    exact ⟨a, dx, fs, f, e, (k a (by simp)).trans g, (k dx (by simp)).trans g2, q, RTs_mono m mb ts _ f (fun b hb => k b (List.mem_cons_of_mem _ (List.mem_cons_of_mem _ hb))) r, rfl⟩
theorem RTs_mono {C : Ct} {w w' : Wd} {H H' : Hp} (m : ∀ a, w.I a → w'.I a ∧ H' a = H a) (mb : ∀ a, w.B a → w'.B a ∧ H' a = H a) : (ts : List T) → (vs : List (Option V)) → (fp : List Addr) → (∀ a ∈ fp, H' a = H a) → RTs C w H ts vs fp → RTs C w' H' ts vs fp
  | [], _, _, _, h => h
  | t :: ts, vs, fp, k, h => by
    obtain ⟨v, r, f1, f2, e, h1, h2, rfl⟩ := h
    exact ⟨v, r, f1, f2, e, RT_mono m mb t v f1 (fun a ha => k a (List.mem_append_left _ ha)) h1, RTs_mono m mb ts r f2 (fun a ha => k a (List.mem_append_right _ ha)) h2, rfl⟩
end
/-- no table of code objects -/
def noT : Option HO → Bool
  | none => false
  | some (.tbl _) => false
  | some _ => true
def HOn : Type := {o : HO // noT (some o) = true}
@[simp] theorem HOn.p (o : HOn) : noT (some o.1) = true := o.2
theorem noT_ne {u : Option HO} (h : noT u = true) (e : u = none) : False := by rw [e] at h; cases h
mutual
theorem RT_some {C : Ct} {w : Wd} {H : Hp} : (t : T) → (v : Option V) → (fp : List Addr) → RT C w H t v fp → ∀ a ∈ fp, ∃ o : HOn, H a = some o.1
  | .dead, _, fp, h, a, ha => by
    have e : fp = [] := h
    subst e; simp at ha
  | .imm b d, v, fp, h, a, ha => by
    obtain ⟨x, e, r, rfl⟩ := h
    simp at ha
  | .lstI ds, v, fp, h, a, ha => by
    obtain ⟨b, vs, e, g, r, rfl⟩ := h
    obtain rfl : a = b := by simpa using ha
    exact ⟨⟨_, rfl⟩, g⟩
  | .lst ts, v, fp, h, a, ha => by
    obtain ⟨b, vs, f, e, g, r, rfl⟩ := h
    rcases List.mem_cons.mp ha with rfl | ha
    · exact ⟨⟨_, rfl⟩, g⟩
    · exact RTs_some ts _ f r a ha
  | .dicI ks ds, v, fp, h, a, ha => by
    obtain ⟨b, kvs, e, g, q, r, rfl⟩ := h
    obtain rfl : a = b := by simpa using ha
    exact ⟨⟨_, rfl⟩, g⟩
  | .dic ks ds, v, fp, h, a, ha => by
    obtain ⟨b, kvs, e, g, q, r, rfl⟩ := h
    obtain rfl : a = b := by simpa using ha
    exact ⟨⟨_, rfl⟩, g⟩
  | .obj c ns ts, v, fp, h, a, ha => by
    obtain ⟨b, dx, fs, f, e, g, g2, q, r, rfl⟩ := h
    rcases List.mem_cons.mp ha with rfl | ha
    · exact ⟨⟨_, rfl⟩, g⟩
    · rcases List.mem_cons.mp ha with rfl | ha
      · exact ⟨⟨_, rfl⟩, g2⟩
      · exact RTs_some ts _ f r a ha
theorem RTs_some {C : Ct} {w : Wd} {H : Hp} : (ts : List T) → (vs : List (Option V)) → (fp : List Addr) → RTs C w H ts vs fp → ∀ a ∈ fp, ∃ o : HOn, H a = some o.1
  | [], _, fp, h, a, ha => by
    have e : fp = [] := h.2
    subst e; simp at ha
  | t :: ts, vs, fp, h, a, ha => by
    obtain ⟨v, r, f1, f2, e, h1, h2, rfl⟩ := h
    rcases List.mem_append.mp ha with ha | ha
    · exact RT_some t v f1 h1 a ha
    · exact RTs_some ts r f2 h2 a ha
end
theorem RTs.length {C : Ct} {w : Wd} {H : Hp} : ∀ {ts : List T} {vs : List (Option V)} {fp : List Addr}, RTs C w H ts vs fp → ts.length = vs.length
  | [], vs, fp, h => by rw [h.1]; rfl
  | t :: ts, vs, fp, h => by
    obtain ⟨v, r, f1, f2, rfl, _, h2, _⟩ := h
    simp [RTs.length h2]
theorem RTs.append {C : Ct} {w : Wd} {H : Hp} : ∀ {ts us : List T} {vs ws : List (Option V)} {f g : List Addr}, RTs C w H ts vs f → RTs C w H us ws g → RTs C w H (ts ++ us) (vs ++ ws) (f ++ g)
  | [], us, vs, ws, f, g, h, h' => by
    obtain ⟨rfl, rfl⟩ := h
    exact h'
  | t :: ts, us, vs, ws, f, g, h, h' => by
    obtain ⟨v, r, f1, f2, rfl, h1, h2, rfl⟩ := h
    exact ⟨v, r ++ ws, f1, f2 ++ g, rfl, h1, RTs.append h2 h', by simp⟩
theorem RTs.split {C : Ct} {w : Wd} {H : Hp} : ∀ {ts us : List T} {vs : List (Option V)} {f : List Addr}, RTs C w H (ts ++ us) vs f → ∃ v1 v2 f1 f2, vs = v1 ++ v2 ∧ f = f1 ++ f2 ∧ RTs C w H ts v1 f1 ∧ RTs C w H us v2 f2
  | [], us, vs, f, h => ⟨[], vs, [], f, rfl, rfl, ⟨rfl, rfl⟩, h⟩
  | t :: ts, us, vs, f, h => by
    obtain ⟨v, r, f1, f2, rfl, h1, h2, rfl⟩ := h
    obtain ⟨v1, v2, g1, g2, rfl, rfl, h3, h4⟩ := RTs.split h2
    exact ⟨v :: v1, v2, f1 ++ g1, g2, rfl, by simp, ⟨v, v1, f1, g1, rfl, h1, h3, rfl⟩, h4⟩
/-- a slot looked at, and put otherwise -/
theorem RTs.at {C : Ct} {w : Wd} {H : Hp} : ∀ {ts : List T} {vs : List (Option V)} {f : List Addr} {i : Nat} {t : T}, RTs C w H ts vs f → ts[i]? = some t →
    ∃ v f1 fp f2, vs[i]? = some v ∧ RT C w H t v fp ∧ f = f1 ++ fp ++ f2 ∧ ∀ t' v' fp', RT C w H t' v' fp' → RTs C w H (ts.set i t') (vs.set i v') (f1 ++ fp' ++ f2)
  | [], vs, f, i, t, h, e => by simp at e
  | t0 :: ts, vs, f, 0, t, h, e => by
    obtain ⟨v, r, f1, f2, rfl, h1, h2, rfl⟩ := h
    simp at e; subst e
    exact ⟨v, [], f1, f2, by simp, h1, by simp, fun t' v' fp' h' => ⟨v', r, fp', f2, by simp, h', h2, by simp⟩⟩
  | t0 :: ts, vs, f, i + 1, t, h, e => by
    obtain ⟨v, r, g1, g2, rfl, h1, h2, rfl⟩ := h
    simp at e
    obtain ⟨u, f1, fp, f2, h3, h4, rfl, h5⟩ := RTs.at (i := i) h2 e
    refine ⟨u, g1 ++ f1, fp, f2, by simpa using h3, h4, by simp, fun t' v' fp' h' => ?_⟩
    exact ⟨v, r.set i v', g1, f1 ++ fp' ++ f2, by simp, h1, h5 t' v' fp' h', by simp⟩

/-! the state -/
structure After (w : Wd) (H : Hp) (w' : Wd) (H' : Hp) : Prop where
  I : ∀ a, w.I a → w'.I a
  B : w'.B = w.B
  R : w'.R = w.R
  new : ∀ a, w'.I a → w.I a ∨ (¬ w.B a ∧ ¬ w.R a)
  keep : ∀ a, (w.I a ∨ w.B a ∨ w.R a) → H' a = H a
theorem After.refl {w : Wd} {H : Hp} : After w H w H := ⟨fun _ h => h, rfl, rfl, fun _ h => .inl h, fun _ _ => rfl⟩
theorem After.trans {w w1 w2 : Wd} {H H1 H2 : Hp} (a : After w H w1 H1) (b : After w1 H1 w2 H2) : After w H w2 H2 where
  I := fun x h => b.I x (a.I x h)
  B := b.B.trans a.B
  R := b.R.trans a.R
  new := fun x h => by
    rcases b.new x h with h | ⟨h1, h2⟩
    · exact a.new x h
    · rw [a.B] at h1; rw [a.R] at h2; exact .inr ⟨h1, h2⟩
  keep := fun x h => by
    refine (b.keep x ?_).trans (a.keep x h)
    rcases h with h | h | h
    · exact .inl (a.I x h)
    · exact .inr (.inl (by rw [a.B]; exact h))
    · exact .inr (.inr (by rw [a.R]; exact h))
structure StF (C : Ct) (w : Wd) (H : Hp) (ρ : List T) (σ : St) (F : List Addr) : Prop where
  rt : RTs C w H ρ σ F
  nd : F.Nodup
  out : ∀ a ∈ F, ¬ w.I a ∧ ¬ w.B a ∧ ¬ w.R a
  tr : ∀ a, (w.I a ∨ w.B a ∨ w.R a) → noT (H a) = true
  tb : LamX.Tabs C.ca.T H
theorem tabs_new {T : List (Addr × Str)} {H : Hp} {p : Addr} {o : HO} (t : LamX.Tabs T H) (h : H p = none) : LamX.Tabs T (upd H p o) := t.ext fun b u e => by
  rw [upd_ne fun z => by rw [z, h] at e; cases e]
  exact e
theorem tabs_wr {T : List (Addr × Str)} {H : Hp} {p : Addr} {vs : List V} {o : HO} (t : LamX.Tabs T H) (h : H p = some (.lst vs)) : LamX.Tabs T (upd H p o) := fun q hq => by
  obtain ⟨ps, h1, h2, h3⟩ := t q hq
  refine ⟨ps, ?_, h2, fun pos cv hc => ?_⟩
  · rw [upd_ne fun z => by rw [z, h] at h1; cases h1]
    exact h1
  · obtain ⟨c, e1, e2⟩ := h3 pos cv hc
    refine ⟨c, e1, ?_⟩
    rw [upd_ne fun z => by rw [z, h] at e2; unfold LamX.CodeO at e2; cases e2]
    exact e2
def Stt (C : Ct) (w : Wd) (H : Hp) (ρ : List T) (σ : St) : Prop := ∃ F, StF C w H ρ σ F
section
variable {C : Ct} {w w' : Wd} {H H' : Hp} {ρ ρ' : List T} {σ σ' : St} {t : T} {v : Option V}
theorem Stt.len (h : Stt C w H ρ σ) : ρ.length = σ.length := by
  obtain ⟨F, h⟩ := h
  exact h.rt.length
/-- what stands in front is laid aside: nobody touches it meanwhile -/
theorem Stt.push (h : Stt C w H (t :: ρ) (v :: σ)) : ∃ wt : Wd, wt.I = w.I ∧ wt.B = w.B ∧ Stt C wt H ρ σ ∧
    ∀ (w' : Wd) (H' : Hp) (ρ' : List T) (σ' : St), After wt H w' H' → Stt C w' H' ρ' σ' → ∃ w'', w''.I = w'.I ∧ After w H w'' H' ∧ Stt C w'' H' (t :: ρ') (v :: σ') := by
  obtain ⟨F, ⟨v0, r, f1, f2, e, h1, h2, rfl⟩, nd, out, tr, tb⟩ := h
  injection e with e1 e2
  subst e1; subst e2
  have nd2 := List.nodup_append.mp nd
  refine ⟨⟨w.I, w.B, fun a => w.R a ∨ a ∈ f1⟩, rfl, rfl, ⟨f2, ?_, nd2.2.1, fun a ha => ?_, fun a ha => ?_, tb⟩, fun w' H' ρ' σ' A S => ?_⟩
  · exact RTs_mono (w := w) (w' := ⟨w.I, w.B, fun a => w.R a ∨ a ∈ f1⟩) (H := H) (fun a z => ⟨z, rfl⟩) (fun a z => ⟨z, rfl⟩) _ _ _ (fun _ _ => rfl) h2
  · have q := out a (List.mem_append_right _ ha)
    exact ⟨q.1, q.2.1, fun z => z.elim q.2.2 fun z => nd2.2.2 a z a ha rfl⟩
  · rcases ha with z | z | z | z
    · exact tr a (.inl z)
    · exact tr a (.inr (.inl z))
    · exact tr a (.inr (.inr z))
    · obtain ⟨o, ho⟩ := RT_some _ _ _ h1 a z
      rw [ho]; simp
  · obtain ⟨F', rt, nd', out', tr', tb'⟩ := S
    have hB : w'.B = w.B := A.B
    have hR : w'.R = fun a => w.R a ∨ a ∈ f1 := A.R
    refine ⟨⟨w'.I, w'.B, w.R⟩, rfl, ⟨A.I, hB, rfl, fun a z => ?_, fun a z => ?_⟩, f1 ++ F', ⟨v, σ', f1, F', rfl, ?_, ?_, rfl⟩, ?_, fun a ha => ?_, fun a z => ?_, tb'⟩
    · rcases A.new a z with z | ⟨z1, z2⟩
      · exact .inl z
      · exact .inr ⟨z1, fun q => z2 (.inl q)⟩
    · refine A.keep a ?_
      rcases z with z | z | z
      · exact .inl z
      · exact .inr (.inl z)
      · exact .inr (.inr (.inl z))
    · refine RT_mono (w := w) (w' := ⟨w'.I, w'.B, w.R⟩) (H := H) (fun a z => ⟨A.I a z, A.keep a (.inl z)⟩) (fun a z => ⟨by show w'.B a; rw [hB]; exact z, A.keep a (.inr (.inl z))⟩) _ _ _ (fun a z => A.keep a (.inr (.inr (.inr z)))) h1
    · exact RTs_mono (w := w') (w' := ⟨w'.I, w'.B, w.R⟩) (H := H') (fun a z => ⟨z, rfl⟩) (fun a z => ⟨z, rfl⟩) _ _ _ (fun _ _ => rfl) rt
    · refine List.nodup_append.mpr ⟨nd2.1, nd', fun a ha b hb e => ?_⟩
      subst e
      refine (out' a hb).2.2 ?_
      rw [hR]; exact .inr ha
    · rcases List.mem_append.mp ha with ha | ha
      · have q := out a (List.mem_append_left _ ha)
        refine ⟨fun z => ?_, by show ¬ w'.B a; rw [hB]; exact q.2.1, q.2.2⟩
        rcases A.new a z with z | ⟨_, z⟩
        · exact q.1 z
        · exact z (.inr ha)
      · have q := out' a ha
        refine ⟨q.1, q.2.1, fun z => q.2.2 ?_⟩
        rw [hR]; exact .inl z
    · refine tr' a ?_
      rcases z with z | z | z
      · exact .inl z
      · exact .inr (.inl z)
      · exact .inr (.inr (by rw [hR]; exact .inl z))
theorem Stt.drop (h : Stt C w H (t :: ρ) (v :: σ)) : Stt C w H ρ σ := by
  obtain ⟨F, ⟨v0, r, f1, f2, e, h1, h2, rfl⟩, nd, out, tr, tb⟩ := h
  injection e with e1 e2
  subst e1; subst e2
  exact ⟨f2, h2, (List.nodup_append.mp nd).2.1, fun a ha => out a (List.mem_append_right _ ha), tr, tb⟩
theorem Stt.cons_imm {b : Bool} {d : D} {x : V} (h : Stt C w H ρ σ) (r : RD C H (w.im b) d x) : Stt C w H (.imm b d :: ρ) (some x :: σ) := by
  obtain ⟨F, rt, nd, out, tr, tb⟩ := h
  exact ⟨F, ⟨some x, σ, [], F, rfl, ⟨x, rfl, r, rfl⟩, rt, rfl⟩, nd, out, tr, tb⟩
theorem Stt.head_imm {b : Bool} {d : D} (h : Stt C w H (.imm b d :: ρ) (v :: σ)) : ∃ x, v = some x ∧ RD C H (w.im b) d x := by
  obtain ⟨F, ⟨v0, r, f1, f2, e, ⟨x, e3, h1, _⟩, h2, rfl⟩, nd, out, tr, tb⟩ := h
  injection e with e1 e2
  subst e1; subst e2
  exact ⟨x, e3, h1⟩
end
end Gb

namespace Gb
open PySem PySem.Spec L2

/-! to let a thing be shared for ever -/
mutual
def T.frz : T → Option (Bool × D)
  | .dead => none
  | .imm b d => some (b, d)
  | .lstI ds => some (false, .lst ds)
  | .lst ts => match frzs ts with | some (b, ds) => some (b, .lst ds) | none => none
  | .dicI ks ds => some (false, .dic ks ds)
  | .dic _ _ => none
  | .obj c ns ts => match frzs ts with | some (b, ds) => some (b, .obj c ns ds) | none => none
def frzs : List T → Option (Bool × List D)
  | [] => some (false, [])
  | t :: ts => match t.frz, frzs ts with
    | some (b, d), some (c, ds) => some (b || c, d :: ds)
    | _, _ => none
end
section
variable {C : Ct} {w w' : Wd} {H H' : Hp} {ρ ρ' : List T} {σ σ' : L2.St} {t : T} {v : Option V}
def frA (w : Wd) (fp : List Addr) (b : Bool) : Addr → Prop := fun a => (w.I a ∨ a ∈ fp) ∨ (b = true ∧ w.B a)
theorem frA_mono {w : Wd} {H : Hp} {f g : List Addr} {b c : Bool} (h : ∀ a ∈ f, a ∈ g) (hb : b = true → c = true) : ∀ a, frA w f b a → frA w g c a ∧ H a = H a := fun a z => by
  refine ⟨?_, rfl⟩
  rcases z with (z | z) | ⟨z1, z2⟩
  · exact .inl (.inl z)
  · exact .inl (.inr (h a z))
  · exact .inr ⟨hb z1, z2⟩
mutual
theorem RT_frz {C : Ct} {w : Wd} {H : Hp} : (t : T) → (v : Option V) → (fp : List Addr) → (b : Bool) → (d : D) → RT C w H t v fp → t.frz = some (b, d) → ∃ x, v = some x ∧ RD C H (frA w fp b) d x
  | .dead, v, fp, b, d, h, e => by simp [T.frz] at e
  | .imm c d', v, fp, b, d, h, e => by
    simp [T.frz] at e
    obtain ⟨rfl, rfl⟩ := e
    obtain ⟨x, rfl, r, rfl⟩ := h
    refine ⟨x, rfl, RD_mono (fun a z => ⟨?_, rfl⟩) _ _ r⟩
    rcases z with z | z
    · exact .inl (.inl z)
    · exact .inr z
  | .lstI ds, v, fp, b, d, h, e => by
    simp [T.frz] at e
    obtain ⟨rfl, rfl⟩ := e
    obtain ⟨a, vs, rfl, g, r, rfl⟩ := h
    refine ⟨_, rfl, a, vs, rfl, ⟨.inl (.inr (by simp)), g⟩, RDs_mono (fun a z => ⟨.inl (.inl z), rfl⟩) _ _ r⟩
  | .lst ts, v, fp, b, d, h, e => by
    obtain ⟨a, vs, f, rfl, g, r, rfl⟩ := h
    unfold T.frz at e
    cases q : frzs ts with
    | none => simp [q] at e
    | some p =>
      obtain ⟨b', ds⟩ := p
      simp [q] at e
      obtain ⟨rfl, rfl⟩ := e
      obtain ⟨xs, hx, r'⟩ := RTs_frz ts _ f _ _ r q
      have hv : vs = xs := by
        have := congrArg (fun l => l.filterMap id) hx
        simpa using this
      subst hv
      exact ⟨_, rfl, a, vs, rfl, ⟨.inl (.inr (by simp)), g⟩, RDs_mono (frA_mono (fun a z => List.mem_cons_of_mem _ z) id) _ _ r'⟩
  | .dicI ks ds, v, fp, b, d, h, e => by
    simp [T.frz] at e
    obtain ⟨rfl, rfl⟩ := e
    obtain ⟨a, kvs, rfl, g, q, r, rfl⟩ := h
    refine ⟨_, rfl, a, kvs, rfl, .inl (.inr (by simp)), .of g, q, RDs_mono (fun a z => ⟨.inl (.inl z), rfl⟩) _ _ r⟩
  | .dic ks ds, v, fp, b, d, h, e => by simp [T.frz] at e
  | .obj c ns ts, v, fp, b, d, h, e => by
    obtain ⟨a, dx, fs, f, rfl, g, g2, qk, r, rfl⟩ := h
    unfold T.frz at e
    cases q : frzs ts with
    | none => simp [q] at e
    | some p =>
      obtain ⟨b', ds⟩ := p
      simp [q] at e
      obtain ⟨rfl, rfl⟩ := e
      obtain ⟨xs, hx, r'⟩ := RTs_frz ts _ f _ _ r q
      have hv : fs.map (·.2) = xs := by
        have := congrArg (fun l => l.filterMap id) hx
        simpa [Function.comp_def] using this
      subst hv
      exact ⟨_, rfl, a, dx, fs, rfl, .inl (.inr (by simp)), .inl (.inr (by simp)), g, g2, qk, RDs_mono (frA_mono (fun a z => List.mem_cons_of_mem _ (List.mem_cons_of_mem _ z)) id) _ _ r'⟩
theorem RTs_frz {C : Ct} {w : Wd} {H : Hp} : (ts : List T) → (vs : List (Option V)) → (fp : List Addr) → (b : Bool) → (ds : List D) → RTs C w H ts vs fp → frzs ts = some (b, ds) → ∃ xs, vs = xs.map some ∧ RDs C H (frA w fp b) ds xs
  | [], vs, fp, b, ds, h, e => by
    simp [frzs] at e
    obtain ⟨rfl, rfl⟩ := e
    obtain ⟨rfl, rfl⟩ := h
    exact ⟨[], rfl, rfl⟩
  | t :: ts, vs, fp, b, ds, h, e => by
    obtain ⟨v, r, f1, f2, rfl, h1, h2, rfl⟩ := h
    unfold frzs at e
    cases q1 : t.frz with
    | none => simp [q1] at e
    | some p1 =>
      cases q2 : frzs ts with
      | none => simp [q1, q2] at e
      | some p2 =>
        obtain ⟨b1, d1⟩ := p1
        obtain ⟨b2, d2⟩ := p2
        simp [q1, q2] at e
        obtain ⟨rfl, rfl⟩ := e
        obtain ⟨x, rfl, hx⟩ := RT_frz t v f1 _ _ h1 q1
        obtain ⟨xs, rfl, hxs⟩ := RTs_frz ts r f2 _ _ h2 q2
        refine ⟨x :: xs, rfl, x, xs, rfl, RD_mono (frA_mono (fun a z => List.mem_append_left _ z) fun z => by simp [z]) _ _ hx, RDs_mono (frA_mono (fun a z => List.mem_append_right _ z) fun z => by simp [z]) _ _ hxs⟩
end
/-- the front thing is shared from now on -/
theorem Stt.freeze {b : Bool} {d : D} (h : Stt C w H (t :: ρ) (v :: σ)) (e : t.frz = some (b, d)) : ∃ w', After w H w' H ∧ Stt C w' H (.imm b d :: ρ) (v :: σ) := by
  obtain ⟨F, ⟨v0, r, f1, f2, e0, h1, h2, rfl⟩, nd, out, tr, tb⟩ := h
  injection e0 with e1 e2
  subst e1; subst e2
  have nd2 := List.nodup_append.mp nd
  obtain ⟨x, rfl, hx⟩ := RT_frz _ _ _ _ _ h1 e
  refine ⟨⟨fun a => w.I a ∨ a ∈ f1, w.B, w.R⟩, ⟨fun a z => .inl z, rfl, rfl, fun a z => ?_, fun _ _ => rfl⟩, f2, ⟨some x, σ, [], f2, rfl, ⟨x, rfl, hx, rfl⟩, ?_, rfl⟩, nd2.2.1, fun a ha => ?_, fun a z => ?_, tb⟩
  · rcases z with z | z
    · exact .inl z
    · exact .inr (out a (List.mem_append_left _ z)).2
  · exact RTs_mono (w := w) (w' := ⟨fun a => w.I a ∨ a ∈ f1, w.B, w.R⟩) (H := H) (fun a z => ⟨.inl z, rfl⟩) (fun a z => ⟨z, rfl⟩) _ _ _ (fun _ _ => rfl) h2
  · have q := out a (List.mem_append_right _ ha)
    exact ⟨fun z => z.elim q.1 fun z => nd2.2.2 a z a ha rfl, q.2⟩
  · rcases z with (z | z) | z | z
    · exact tr a (.inl z)
    · obtain ⟨o, ho⟩ := RT_some _ _ _ h1 a z
      rw [ho]; simp
    · exact tr a (.inr (.inl z))
    · exact tr a (.inr (.inr z))
theorem set_same {α : Type} : ∀ {l : List α} {i : Nat} {x : α}, l[i]? = some x → l.set i x = l
  | [], i, x, h => by simp at h
  | a :: l, 0, x, h => by simp at h; simp [h]
  | a :: l, i + 1, x, h => by simp at h; simp [set_same h]
/-- a slot's thing is shared from now on; it is told -/
theorem Stt.share {b : Bool} {d : D} {i : Nat} (h : Stt C w H ρ σ) (hi : ρ[i]? = some t) (e : t.frz = some (b, d)) :
    ∃ w' x, σ[i]? = some (some x) ∧ After w H w' H ∧ Stt C w' H (.imm b d :: ρ.set i (.imm b d)) (some x :: σ) := by
  obtain ⟨F, rt, nd, out, tr, tb⟩ := h
  obtain ⟨v, f1, fp, f2, hv, h1, rfl, put⟩ := rt.at hi
  obtain ⟨x, rfl, hx⟩ := RT_frz _ _ _ _ _ h1 e
  have nd2 := List.nodup_append.mp nd
  have nd3 := List.nodup_append.mp nd2.1
  refine ⟨⟨fun a => w.I a ∨ a ∈ fp, w.B, w.R⟩, x, hv, ⟨fun a z => .inl z, rfl, rfl, fun a z => ?_, fun _ _ => rfl⟩, f1 ++ f2, ⟨some x, σ, [], f1 ++ f2, rfl, ⟨x, rfl, hx, rfl⟩, ?_, rfl⟩, ?_, fun a ha => ?_, fun a z => ?_, tb⟩
  · rcases z with z | z
    · exact .inl z
    · exact .inr (out a (List.mem_append_left _ (List.mem_append_right _ z))).2
  · have rt' : RTs C ⟨fun a => w.I a ∨ a ∈ fp, w.B, w.R⟩ H ρ σ (f1 ++ fp ++ f2) := RTs_mono (w := w) (w' := ⟨fun a => w.I a ∨ a ∈ fp, w.B, w.R⟩) (H := H) (fun a z => ⟨.inl z, rfl⟩) (fun a z => ⟨z, rfl⟩) _ _ _ (fun _ _ => rfl) rt
    have q : RTs C w H (ρ.set i .dead) (σ.set i (some x)) (f1 ++ [] ++ f2) := put .dead (some x) [] rfl
    rw [set_same hv] at q
    have q' : RTs C ⟨fun a => w.I a ∨ a ∈ fp, w.B, w.R⟩ H (ρ.set i .dead) σ (f1 ++ [] ++ f2) := RTs_mono (w := w) (w' := ⟨fun a => w.I a ∨ a ∈ fp, w.B, w.R⟩) (H := H) (fun a z => ⟨.inl z, rfl⟩) (fun a z => ⟨z, rfl⟩) _ _ _ (fun _ _ => rfl) q
    have hi2 : (ρ.set i .dead)[i]? = some .dead := by
      rw [List.getElem?_set_self]
      exact (List.getElem?_eq_some_iff.mp hi).1
    obtain ⟨v2, g1, gp, g2, hv2, h2, eg, put2⟩ := q'.at hi2
    rw [hv] at hv2
    have ev : v2 = some x := (Option.some.inj hv2).symm
    subst ev
    have egp : gp = [] := h2
    subst egp
    have z := put2 (.imm b d) (some x) [] ⟨x, rfl, hx, rfl⟩
    rw [set_same hv, List.set_set] at z
    have eg' : g1 ++ [] ++ g2 = f1 ++ f2 := by rw [← eg]; simp
    rw [eg'] at z
    exact z
  · refine List.nodup_append.mpr ⟨nd3.1, nd2.2.1, fun a ha b hb => nd2.2.2 a (List.mem_append_left _ ha) b hb⟩
  · have hm : a ∈ f1 ++ fp ++ f2 := by
      rcases List.mem_append.mp ha with z | z
      · exact List.mem_append_left _ (List.mem_append_left _ z)
      · exact List.mem_append_right _ z
    have q := out a hm
    refine ⟨fun z => z.elim q.1 fun z => ?_, q.2⟩
    rcases List.mem_append.mp ha with y | y
    · exact nd3.2.2 a y a z rfl
    · exact nd2.2.2 a (List.mem_append_right _ z) a y rfl
  · rcases z with (z | z) | z | z
    · exact tr a (.inl z)
    · obtain ⟨o, ho⟩ := RT_some _ _ _ h1 a z
      rw [ho]; simp
    · exact tr a (.inr (.inl z))
    · exact tr a (.inr (.inr z))
/-- a slot's thing is taken out -/
theorem Stt.move {i : Nat} (h : Stt C w H ρ σ) (hi : ρ[i]? = some t) : ∃ v, σ[i]? = some v ∧ Stt C w H (t :: ρ.set i .dead) (v :: σ) := by
  obtain ⟨F, rt, nd, out, tr, tb⟩ := h
  obtain ⟨v, f1, fp, f2, hv, h1, rfl, put⟩ := rt.at hi
  have q := put .dead v [] rfl
  rw [set_same hv] at q
  refine ⟨v, hv, fp ++ (f1 ++ [] ++ f2), ⟨v, σ, fp, _, rfl, h1, q, rfl⟩, ?_, fun a ha => ?_, tr, tb⟩
  · have nd2 := List.nodup_append.mp nd
    have nd3 := List.nodup_append.mp nd2.1
    simp only [List.append_nil]
    refine List.nodup_append.mpr ⟨nd3.2.1, List.nodup_append.mpr ⟨nd3.1, nd2.2.1, fun a ha b hb => nd2.2.2 a (List.mem_append_left _ ha) b hb⟩, fun a ha b hb e => ?_⟩
    subst e
    rcases List.mem_append.mp hb with y | y
    · exact nd3.2.2 a y a ha rfl
    · exact nd2.2.2 a (List.mem_append_right _ ha) a y rfl
  · refine out a ?_
    simp only [List.append_nil, List.mem_append] at ha ⊢
    rcases ha with ha | ha | ha
    · exact .inl (.inr ha)
    · exact .inl (.inl ha)
    · exact .inr ha
/-- the front thing is put into a slot -/
theorem Stt.put {i : Nat} (h : Stt C w H (t :: ρ) (v :: σ)) (hi : i < ρ.length) : Stt C w H (ρ.set i t) (σ.set i v) := by
  obtain ⟨F, ⟨v0, r, g1, g2, e0, k1, k2, rfl⟩, nd, out, tr, tb⟩ := h
  injection e0 with e1 e2
  subst e1; subst e2
  obtain ⟨t0, ht0⟩ : ∃ t0, ρ[i]? = some t0 := ⟨ρ[i], List.getElem?_eq_getElem hi⟩
  obtain ⟨v', f1, fp, f2, hv, h1, rfl, put⟩ := k2.at ht0
  refine ⟨f1 ++ g1 ++ f2, put t v g1 k1, ?_, fun a ha => out a ?_, tr, tb⟩
  · have n1 := List.nodup_append.mp nd
    have n2 := List.nodup_append.mp n1.2.1
    have n3 := List.nodup_append.mp n2.1
    refine List.nodup_append.mpr ⟨List.nodup_append.mpr ⟨n3.1, n1.1, fun a ha b hb e => ?_⟩, n2.2.1, fun a ha b hb e => ?_⟩
    · subst e
      exact n1.2.2 a hb a (List.mem_append_left _ (List.mem_append_left _ ha)) rfl
    · subst e
      rcases List.mem_append.mp ha with y | y
      · exact n2.2.2 a (List.mem_append_left _ y) a hb rfl
      · exact n1.2.2 a y a (List.mem_append_right _ hb) rfl
  · simp only [List.mem_append] at ha ⊢
    rcases ha with (ha | ha) | ha
    · exact .inr (.inl (.inl ha))
    · exact .inl ha
    · exact .inr (.inr ha)
/-- a new object, shared at once -/
theorem Stt.newI {p : Addr} {o : HO} (h : Stt C w H ρ σ) (hp : H p = none) (ho : noT (some o) = true := by rfl) : After w H ⟨fun a => w.I a ∨ a = p, w.B, w.R⟩ (upd H p o) ∧ Stt C ⟨fun a => w.I a ∨ a = p, w.B, w.R⟩ (upd H p o) ρ σ := by
  obtain ⟨F, rt, nd, out, tr, tb⟩ := h
  have ne : ∀ a, (w.I a ∨ w.B a ∨ w.R a) → a ≠ p := fun a z e => by subst e; exact noT_ne (tr a z) hp
  refine ⟨⟨fun a z => .inl z, rfl, rfl, fun a z => ?_, fun a z => upd_ne (ne a z)⟩, F, ?_, nd, fun a ha => ?_, fun a z => ?_, tabs_new tb hp⟩
  · rcases z with z | rfl
    · exact .inl z
    · exact .inr ⟨fun z => noT_ne (tr a (.inr (.inl z))) hp, fun z => noT_ne (tr a (.inr (.inr z))) hp⟩
  · refine RTs_mono (w := w) (w' := ⟨fun a => w.I a ∨ a = p, w.B, w.R⟩) (H := H) (fun a z => ⟨.inl z, upd_ne (ne a (.inl z))⟩) (fun a z => ⟨z, upd_ne (ne a (.inr (.inl z)))⟩) _ _ _ (fun a ha => upd_ne fun e => ?_) rt
    obtain ⟨o', ho⟩ := RTs_some _ _ _ rt a ha
    rw [e, hp] at ho; cases ho
  · have q := out a ha
    refine ⟨fun z => z.elim q.1 fun e => ?_, q.2⟩
    obtain ⟨o', ho⟩ := RTs_some _ _ _ rt a ha
    rw [e, hp] at ho; cases ho
  · by_cases e : a = p
    · subst e; rw [upd_same]; exact ho
    · rw [upd_ne e]
      rcases z with (z | z) | z | z
      · exact tr a (.inl z)
      · exact absurd z e
      · exact tr a (.inr (.inl z))
      · exact tr a (.inr (.inr z))
/-- a new list of shared things, one's own -/
theorem Stt.newL {p : Addr} {ds : List D} {vs : List V} (h : Stt C w H ρ σ) (r : RDs C H w.I ds vs) (hp : H p = none) : After w H w (upd H p (.lst vs)) ∧ Stt C w (upd H p (.lst vs)) (.lstI ds :: ρ) (some (.ref p) :: σ) := by
  obtain ⟨F, rt, nd, out, tr, tb⟩ := h
  have ne : ∀ a, (w.I a ∨ w.B a ∨ w.R a) → a ≠ p := fun a z e => by subst e; exact noT_ne (tr a z) hp
  have nf : ∀ a ∈ F, a ≠ p := fun a ha e => by
    obtain ⟨o', ho⟩ := RTs_some _ _ _ rt a ha
    rw [e, hp] at ho; cases ho
  refine ⟨⟨fun a z => z, rfl, rfl, fun a z => .inl z, fun a z => upd_ne (ne a z)⟩, p :: F, ⟨_, σ, [p], F, rfl, ⟨p, vs, rfl, upd_same, ?_, rfl⟩, ?_, rfl⟩, ?_, fun a ha => ?_, fun a z => ?_, tabs_new tb hp⟩
  · exact RDs_mono (fun a z => ⟨z, upd_ne (ne a (.inl z))⟩) _ _ r
  · exact RTs_mono (w := w) (H := H) (fun a z => ⟨z, upd_ne (ne a (.inl z))⟩) (fun a z => ⟨z, upd_ne (ne a (.inr (.inl z)))⟩) _ _ _ (fun a ha => upd_ne (nf a ha)) rt
  · exact List.nodup_cons.mpr ⟨fun z => nf p z rfl, nd⟩
  · rcases List.mem_cons.mp ha with rfl | ha
    · exact ⟨fun z => ne a (.inl z) rfl, fun z => ne a (.inr (.inl z)) rfl, fun z => ne a (.inr (.inr z)) rfl⟩
    · exact out a ha
  · rw [upd_ne (ne a z)]; exact tr a z
end

/-! expressions -/
structure Ex where
  c : Nat
  ns : List Str
  vs : List D
inductive ER (α : Type) where
  | ok (a : α) (ρ : List T)
  | exc (e : Ex) (ρ : List T)
  | bad
@[simp] def ER.bind {α β : Type} (r : ER α) (f : α → List T → ER β) : ER β := match r with
  | .ok a ρ => f a ρ
  | .exc e ρ => .exc e ρ
  | .bad => .bad
abbrev DE := List T → ER T
abbrev DA := List T → ER (List T)
def ExAt (C : Ct) (I : Addr → Prop) (H : Hp) (e : Ex) (cls : Value) (dx : Option Addr) : Prop :=
  cls = .ref (C.ca e.c) ∧ ((e.ns = [] ∧ e.vs = [] ∧ dx = none) ∨ ∃ d fs, dx = some d ∧ e.ns ≠ [] ∧ I d ∧ H d = some (.xd fs) ∧ fs.map (·.1) = e.ns ∧ RDs C H I e.vs (fs.map (·.2)))
def kE (C : Ct) (W : WX) (w : Wd) (H : Hp) (σ : L2.St) (Q : VK) : ER T → Prop
  | .ok t ρ' => ∀ w' H' v, After w H w' H' → Stt C w' H' (t :: ρ') (some v :: σ) → Q v H'
  | .exc e ρ' => ∀ w' H' cls dx, After w H w' H' → Stt C w' H' ρ' σ → ExAt C w'.I H' e cls dx → W cls dx σ H'
  | .bad => False
def tE (C : Ct) (W : WX) (d : DE) : TE := fun σ H Q => ∃ w ρ, Stt C w H ρ σ ∧ kE C W w H σ Q (d ρ)
def kA (C : Ct) (W : WX) (w : Wd) (H : Hp) (σ : L2.St) (Q : List V → Hp → Prop) : ER (List T) → Prop
  | .ok ts ρ' => ∀ w' H' vs, vs.length = ts.length → After w H w' H' → Stt C w' H' (ts ++ ρ') (vs.map some ++ σ) → Q vs H'
  | .exc e ρ' => ∀ w' H' cls dx, After w H w' H' → Stt C w' H' ρ' σ → ExAt C w'.I H' e cls dx → W cls dx σ H'
  | .bad => False
def tA (C : Ct) (W : WX) (d : DA) : TA := fun σ H Q => ∃ w ρ, Stt C w H ρ σ ∧ kA C W w H σ Q (d ρ)
/-- the reading of an expression is its denotation -/
structure SE (X : Cx) (ca : Cad) (W : WX) (e : Expr) (d : DE) : Prop where
  pe : PE X e (tE ⟨X.K, ca⟩ W d)
structure SA (X : Cx) (ca : Cad) (W : WX) (es : List Expr) (d : DA) : Prop where
  pa : PA X es (tA ⟨X.K, ca⟩ W d)
theorem PE.imp {X : Cx} {e : Expr} {t t' : TE} (h : PE X e t) (i : ∀ σ H Q, t' σ H Q → t σ H Q) : PE X e t' := ⟨fun pins s σ H Q I q => h.run pins s σ H Q I (i σ H Q q)⟩
theorem PT.imp {X : Cx} {e : Expr} {t t' : TT} (h : PT X e t) (i : ∀ σ H Q, t' σ H Q → t σ H Q) : PT X e t' := ⟨fun pins s σ H Q I q => h.run pins s σ H Q I (i σ H Q q)⟩
theorem PA.imp {X : Cx} {es : List Expr} {t t' : TA} (h : PA X es t) (i : ∀ σ H Q, t' σ H Q → t σ H Q) : PA X es t' := ⟨fun pos pins s σ H Q I q => h.run pos pins s σ H Q I (i σ H Q q)⟩
theorem PS.imp {X : Cx} {st : Stmt} {t t' : TS} (h : PS X st t) (i : ∀ D σ H, t' D σ H → t D σ H) : PS X st t' := ⟨fun pins s σ H D I q => h.run pins s σ H D I (i D σ H q)⟩
theorem PSs.imp {X : Cx} {st : List Stmt} {t t' : TS} (h : PSs X st t) (i : ∀ D σ H, t' D σ H → t D σ H) : PSs X st t' := ⟨fun pins s σ H D I q => h.run pins s σ H D I (i D σ H q)⟩
theorem ExAt.I {C : Ct} {I I' : Addr → Prop} {H : Hp} {e : Ex} {cls : Value} {dx : Option Addr} (h : ExAt C I H e cls dx) (i : I' = I) : ExAt C I' H e cls dx := by rw [i]; exact h
section
variable {C : Ct} {W : WX} {w w' : Wd} {H H' : Hp} {σ : L2.St} {Q : VK}
theorem kE.after (A : After w H w' H') : {r : ER T} → kE C W w H σ Q r → kE C W w' H' σ Q r
  | .ok t ρ, k => fun w2 H2 v A2 S => k w2 H2 v (A.trans A2) S
  | .exc e ρ, k => fun w2 H2 cls dx A2 S x => k w2 H2 cls dx (A.trans A2) S x
  | .bad, k => k
theorem kA.after {Q : List V → Hp → Prop} (A : After w H w' H') : {r : ER (List T)} → kA C W w H σ Q r → kA C W w' H' σ Q r
  | .ok t ρ, k => fun w2 H2 v l A2 S => k w2 H2 v l (A.trans A2) S
  | .exc e ρ, k => fun w2 H2 cls dx A2 S x => k w2 H2 cls dx (A.trans A2) S x
  | .bad, k => k
@[simp] def d1 (f : T → DE) (da : DE) : DE := fun ρ => (da ρ).bind fun x ρ1 => f x ρ1
@[simp] def d2 (f : T → T → DE) (da db : DE) : DE := fun ρ => (da ρ).bind fun x ρ1 => (db ρ1).bind fun y ρ2 => f x y ρ2
theorem one {da : DE} {f : T → DE} {r : V → Hp → VK → Prop} (h : tE C W (d1 f da) σ H Q)
    (hr : ∀ w H x ρ v, Stt C w H (x :: ρ) (some v :: σ) → kE C W w H σ Q (f x ρ) → r v H Q) : tE C W da σ H fun v H1 => r v H1 Q := by
  obtain ⟨w, ρ, S, k⟩ := h
  refine ⟨w, ρ, S, ?_⟩
  unfold d1 at k
  cases ha : da ρ with
  | bad => rw [ha] at k; exact k
  | exc e ρ1 => rw [ha] at k; exact k
  | ok x ρ1 =>
    rw [ha] at k
    exact fun w1 H1 v A1 S1 => hr w1 H1 x ρ1 v S1 (kE.after A1 k)
/-- a further expression behind one that is laid aside -/
theorem aside {da : DE} {x : T} {v : V} {ρ : List T} {R : V → Hp → Prop} {g : T → List T → ER T} (S : Stt C w H (x :: ρ) (some v :: σ)) (k : kE C W w H σ Q ((da ρ).bind g))
    (hr : ∀ w' H' y ρ' u, Stt C w' H' (x :: y :: ρ') (some v :: some u :: σ) → kE C W w' H' σ Q (g y ρ') → R u H') : tE C W da σ H R := by
  obtain ⟨wt, eI, eB, S1, back⟩ := S.push
  refine ⟨wt, ρ, S1, ?_⟩
  cases ha : da ρ with
  | bad => rw [ha] at k; exact k
  | exc e ρ1 =>
    rw [ha] at k
    intro w2 H2 cls dx A2 S2 x2
    obtain ⟨w3, e3, A3, S3⟩ := back _ _ _ _ A2 S2
    exact k w3 H2 cls dx A3 S3.drop (x2.I e3)
  | ok y ρ1 =>
    rw [ha] at k
    intro w2 H2 u A2 S2
    obtain ⟨w3, e3, A3, S3⟩ := back _ _ _ _ A2 S2
    exact hr w3 H2 y ρ1 u S3 (kE.after A3 k)
theorem two {da db : DE} {f : T → T → DE} {r : R2} (h : tE C W (d2 f da db) σ H Q)
    (hr : ∀ w H x y ρ v u, Stt C w H (x :: y :: ρ) (some v :: some u :: σ) → kE C W w H σ Q (f x y ρ) → r v u H Q) : tOp r (tE C W da) (tE C W db) σ H Q :=
  one (r := fun v H1 Q => tE C W db σ H1 fun u H2 => r v u H2 Q) (f := fun x ρ1 => (db ρ1).bind fun y ρ2 => f x y ρ2) h fun w H x ρ v S k => aside (g := fun y ρ2 => f x y ρ2) (R := fun u H2 => r v u H2 Q) S k fun w' H' y ρ' u S' k' => hr w' H' x y ρ' v u S' k'
end
end Gb

namespace Gb
open PySem PySem.Spec L2

/-! arguments -/
def dNil : DA := fun ρ => .ok [] ρ
def dCons (da : DE) (dr : DA) : DA := fun ρ => (da ρ).bind fun x ρ1 => (dr ρ1).bind fun xs ρ2 => .ok (x :: xs) ρ2
section
variable {X : Cx} {ca : Cad} {W : WX}
theorem sa_nil : SA X ca W [] dNil := ⟨PA.imp pa_nil fun σ H Q h => by
  obtain ⟨w, ρ, S, k⟩ := h
  exact k w H [] rfl .refl S⟩
theorem asideA {C : Ct} {w : Wd} {H : Hp} {σ : L2.St} {Q : List V → Hp → Prop} {da : DA} {x : T} {v : V} {ρ : List T} {g : List T → List T → ER (List T)} {R : List V → Hp → Prop} (S : Stt C w H (x :: ρ) (some v :: σ)) (k : kA C W w H σ Q ((da ρ).bind g))
    (hr : ∀ w' H' ys ρ' us, us.length = ys.length → Stt C w' H' (x :: (ys ++ ρ')) (some v :: (us.map some ++ σ)) → kA C W w' H' σ Q (g ys ρ') → R us H') : tA C W da σ H R := by
  obtain ⟨wt, eI, eB, S1, back⟩ := S.push
  refine ⟨wt, ρ, S1, ?_⟩
  cases ha : da ρ with
  | bad => rw [ha] at k; exact k
  | exc e ρ1 =>
    rw [ha] at k
    intro w2 H2 cls dx A2 S2 x2
    obtain ⟨w3, e3, A3, S3⟩ := back _ _ _ _ A2 S2
    exact k w3 H2 cls dx A3 S3.drop (x2.I e3)
  | ok y ρ1 =>
    rw [ha] at k
    intro w2 H2 u l A2 S2
    obtain ⟨w3, e3, A3, S3⟩ := back _ _ _ _ A2 S2
    exact hr w3 H2 y ρ1 u l S3 (kA.after A3 k)
theorem sa_cons {e : Expr} {es : List Expr} {da : DE} {dr : DA} (ha : SE X ca W e da) (hr : SA X ca W es dr) (hs : starEach (e :: es) X.env = (false, eval e X.env) :: starEach es X.env := by rfl) : SA X ca W (e :: es) (dCons da dr) := ⟨PA.imp (pa_cons ha.pe hr.pa hs) fun σ H Q h => by
  obtain ⟨w, ρ, S, k⟩ := h
  refine ⟨w, ρ, S, ?_⟩
  unfold dCons at k
  cases ha : da ρ with
  | bad => rw [ha] at k; exact k
  | exc e ρ1 => rw [ha] at k; exact k
  | ok x ρ1 =>
    rw [ha] at k
    intro w1 H1 v A1 S1
    refine asideA (g := fun xs ρ2 => .ok (x :: xs) ρ2) S1 (kA.after A1 k) fun w' H' ys ρ' us l S' k' => ?_
    exact k' w' H' (v :: us) (by simp [l]) .refl S'⟩
end

/-! tests -/
abbrev DT := List T → ER Bool
def kT (C : Ct) (W : WX) (w : Wd) (H : Hp) (σ : L2.St) (Q : Bool → Hp → Prop) : ER Bool → Prop
  | .ok b ρ' => ∀ w' H', After w H w' H' → Stt C w' H' ρ' σ → Q b H'
  | .exc e ρ' => ∀ w' H' cls dx, After w H w' H' → Stt C w' H' ρ' σ → ExAt C w'.I H' e cls dx → W cls dx σ H'
  | .bad => False
def tT (C : Ct) (W : WX) (d : DT) : TT := fun σ H Q => ∃ w ρ, Stt C w H ρ σ ∧ kT C W w H σ Q (d ρ)
structure ST (X : Cx) (ca : Cad) (W : WX) (e : Expr) (d : DT) : Prop where
  pt : PT X e (tT ⟨X.K, ca⟩ W d)
structure SW (X : Cx) (ca : Cad) (W : WX) (e : Expr) (d : DT) : Prop where
  pw : PW X e (tT ⟨X.K, ca⟩ W d)
theorem kT.after {C : Ct} {W : WX} {w w' : Wd} {H H' : Hp} {σ : L2.St} {Q : Bool → Hp → Prop} (A : After w H w' H') : {r : ER Bool} → kT C W w H σ Q r → kT C W w' H' σ Q r
  | .ok t ρ, k => fun w2 H2 A2 S => k w2 H2 (A.trans A2) S
  | .exc e ρ, k => fun w2 H2 cls dx A2 S x => k w2 H2 cls dx (A.trans A2) S x
  | .bad, k => k
def asBool : T → List T → ER Bool
  | .imm _ (.bl b), ρ => .ok b ρ
  | _, _ => .bad
def dtVal (d : DE) : DT := fun ρ => (d ρ).bind asBool
def dtAnd (a b : DT) : DT := fun ρ => (a ρ).bind fun x ρ1 => if x then b ρ1 else .ok false ρ1
def dtOr (a b : DT) : DT := fun ρ => (a ρ).bind fun x ρ1 => if x then .ok true ρ1 else b ρ1
def dtNot (a : DT) : DT := fun ρ => (a ρ).bind fun x ρ1 => .ok (!x) ρ1
section
variable {C : Ct} {W : WX} {w : Wd} {H : Hp} {σ : L2.St} {X : Cx} {ca : Cad}
theorem val_of {d : DE} {Q : Bool → Hp → Prop} (h : tT C W (dtVal d) σ H Q) : tE C W d σ H fun x H1 => ∃ c, x = .bl c ∧ Q c H1 := by
  obtain ⟨w, ρ, S, k⟩ := h
  refine ⟨w, ρ, S, ?_⟩
  unfold dtVal at k
  cases ha : d ρ with
  | bad => rw [ha] at k; exact k
  | exc e ρ1 => rw [ha] at k; exact k
  | ok x ρ1 =>
    rw [ha] at k
    intro w1 H1 v A1 S1
    cases x with
    | imm b d =>
      cases d with
      | bl c =>
        obtain ⟨x, e, r⟩ := S1.head_imm
        cases e
        exact ⟨c, r, k w1 H1 A1 S1.drop⟩
      | _ => exact (show False from k).elim
    | _ => exact (show False from k).elim
theorem st_val {e : Expr} {d : DE} (h : SE X ca W e d) (he : ∀ whole, isTrue e X.env whole = (do let v ← whole; standAt e.pos; holding [v] (truthy v)) := by intro _; rfl) : ST X ca W e (dtVal d) := ⟨PT.imp (pt_val h.pe he) fun σ H Q q => val_of q⟩
theorem bindT {a : DT} {g : Bool → List T → ER Bool} {Q : Bool → Hp → Prop} (h : tT C W (fun ρ => (a ρ).bind g) σ H Q) {R : Bool → Hp → Prop} (hr : ∀ w H ρ b, Stt C w H ρ σ → kT C W w H σ Q (g b ρ) → R b H) : tT C W a σ H R := by
  obtain ⟨w, ρ, S, k⟩ := h
  refine ⟨w, ρ, S, ?_⟩
  cases ha : a ρ with
  | bad => simp only [ha] at k; exact k
  | exc e ρ1 => simp only [ha] at k; exact k
  | ok x ρ1 =>
    simp only [ha] at k
    exact fun w1 H1 A1 S1 => hr w1 H1 ρ1 x S1 (kT.after A1 k)
theorem sw_and1 {a : Expr} {pos : Pos} {da : DT} (h : ST X ca W a da) : SW X ca W (.BoolOp .And [a] pos) da := ⟨pw_and1 h.pt⟩
theorem sw_or1 {a : Expr} {pos : Pos} {da : DT} (h : ST X ca W a da) : SW X ca W (.BoolOp .Or [a] pos) da := ⟨pw_or1 h.pt⟩
theorem PW.imp {X : Cx} {e : Expr} {t t' : TT} (h : PW X e t) (i : ∀ σ H Q, t' σ H Q → t σ H Q) : PW X e t' := ⟨fun wh pins s σ H Q I q => h.run wh pins s σ H Q I (i σ H Q q)⟩
theorem sw_and {a b : Expr} {r : List Expr} {pos : Pos} {da db : DT} (ha : ST X ca W a da) (hb : SW X ca W (.BoolOp .And (b :: r) pos) db) : SW X ca W (.BoolOp .And (a :: b :: r) pos) (dtAnd da db) := ⟨PW.imp (pw_and ha.pt hb.pw) fun σ H Q q => by
  refine bindT q fun w H ρ c S k => ?_
  cases c with
  | true => exact ⟨w, ρ, S, k⟩
  | false => exact k w H .refl S⟩
theorem sw_or {a b : Expr} {r : List Expr} {pos : Pos} {da db : DT} (ha : ST X ca W a da) (hb : SW X ca W (.BoolOp .Or (b :: r) pos) db) : SW X ca W (.BoolOp .Or (a :: b :: r) pos) (dtOr da db) := ⟨PW.imp (pw_or ha.pt hb.pw) fun σ H Q q => by
  refine bindT q fun w H ρ c S k => ?_
  cases c with
  | false => exact ⟨w, ρ, S, k⟩
  | true => exact k w H .refl S⟩
theorem SW.st {e : Expr} {d : DT} (h : SW X ca W e d) : ST X ca W e d := ⟨h.pw.pt⟩
theorem st_not {a : Expr} {pos : Pos} {da : DT} (ha : ST X ca W a da) : ST X ca W (.UnaryOp .Not a pos) (dtNot da) := ⟨PT.imp (pt_not ha.pt) fun σ H Q q => by
  refine bindT q fun w H ρ c S k => ?_
  exact k w H .refl S⟩
end

/-! statements -/
inductive SR where
  | next (ρ : List T) | ret (t : T) (ρ : List T) | brk (ρ : List T) | cont (ρ : List T) | exc (e : Ex) (ρ : List T) | bad
abbrev DS := List T → SR
def Same' (pn : List Nat) (σ σ' : L2.St) : Prop := ∀ i ∈ pn, σ'[i]? = σ[i]?
theorem Same'.refl {pn : List Nat} {σ : L2.St} : Same' pn σ σ := fun _ _ => rfl
theorem Same'.trans {pn : List Nat} {σ σ1 σ2 : L2.St} (a : Same' pn σ σ1) (b : Same' pn σ1 σ2) : Same' pn σ σ2 := fun i h => (b i h).trans (a i h)
def kS (C : Ct) (W : WX) (pn : List Nat) (w : Wd) (H : Hp) (σ : L2.St) (D : Ends) : SR → Prop
  | .next ρ' => ∀ w' H' σ', After w H w' H' → Stt C w' H' ρ' σ' → Same' pn σ σ' → D.nx σ' H'
  | .brk ρ' => ∀ w' H' σ', After w H w' H' → Stt C w' H' ρ' σ' → Same' pn σ σ' → D.bk σ' H'
  | .cont ρ' => ∀ w' H' σ', After w H w' H' → Stt C w' H' ρ' σ' → Same' pn σ σ' → D.ct σ' H'
  | .ret t ρ' => ∀ w' H' σ' v, After w H w' H' → Stt C w' H' (t :: ρ') (some v :: σ') → Same' pn σ σ' → D.rt v H'
  | .exc e ρ' => ∀ w' H' σ' cls dx, After w H w' H' → Stt C w' H' ρ' σ' → Same' pn σ σ' → ExAt C w'.I H' e cls dx → W cls dx σ' H'
  | .bad => False
def tS (C : Ct) (W : WX) (pn : List Nat) (d : DS) : TS := fun D σ H => ∃ w ρ, Stt C w H ρ σ ∧ kS C W pn w H σ D (d ρ)
structure SS (X : Cx) (ca : Cad) (W : WX) (pn : List Nat) (st : Stmt) (d : DS) : Prop where
  ps : PS X st (tS ⟨X.K, ca⟩ W pn d)
structure SB (X : Cx) (ca : Cad) (W : WX) (pn : List Nat) (sts : List Stmt) (d : DS) : Prop where
  pss : PSs X sts (tS ⟨X.K, ca⟩ W pn d)
section
variable {C : Ct} {W : WX} {pn : List Nat} {w w' : Wd} {H H' : Hp} {σ σ' : L2.St} {D : Ends} {X : Cx} {ca : Cad}
theorem kS.after (A : After w H w' H') (P : Same' pn σ σ') : {r : SR} → kS C W pn w H σ D r → kS C W pn w' H' σ' D r
  | .next ρ, k => fun w2 H2 σ2 A2 S P2 => k w2 H2 σ2 (A.trans A2) S (P.trans P2)
  | .brk ρ, k => fun w2 H2 σ2 A2 S P2 => k w2 H2 σ2 (A.trans A2) S (P.trans P2)
  | .cont ρ, k => fun w2 H2 σ2 A2 S P2 => k w2 H2 σ2 (A.trans A2) S (P.trans P2)
  | .ret t ρ, k => fun w2 H2 σ2 v A2 S P2 => k w2 H2 σ2 v (A.trans A2) S (P.trans P2)
  | .exc e ρ, k => fun w2 H2 σ2 cls dx A2 S P2 x => k w2 H2 σ2 cls dx (A.trans A2) S (P.trans P2) x
  | .bad, k => k
def dPass : DS := .next
def dSeq (a b : DS) : DS := fun ρ => match a ρ with
  | .next ρ' => b ρ'
  | .ret t ρ' => .ret t ρ'
  | .brk ρ' => .brk ρ'
  | .cont ρ' => .cont ρ'
  | .exc e ρ' => .exc e ρ'
  | .bad => .bad
theorem sb_nil : SB X ca W pn [] dPass := ⟨PSs.imp pss_nil fun D σ H h => by
  obtain ⟨w, ρ, S, k⟩ := h
  exact k w H σ .refl S .refl⟩
theorem sb_one {st : Stmt} {d : DS} (h : SS X ca W pn st d) : SB X ca W pn [st] d := ⟨pss_one h.ps⟩
theorem sb_cons {st : Stmt} {rest : List Stmt} {d1 d2 : DS} (h1 : SS X ca W pn st d1) (h2 : SB X ca W pn rest d2) : SB X ca W pn (st :: rest) (dSeq d1 d2) := ⟨PSs.imp (pss_cons h1.ps h2.pss) fun D σ H h => by
  obtain ⟨w, ρ, S, k⟩ := h
  refine ⟨w, ρ, S, ?_⟩
  unfold dSeq at k
  cases e : d1 ρ with
  | next ρ1 =>
    rw [e] at k
    exact fun w1 H1 σ1 A1 S1 P1 => ⟨w1, ρ1, S1, kS.after A1 P1 k⟩
  | ret t ρ1 => rw [e] at k; exact k
  | brk ρ1 => rw [e] at k; exact k
  | cont ρ1 => rw [e] at k; exact k
  | exc x ρ1 => rw [e] at k; exact k
  | bad => rw [e] at k; exact k⟩
def dBreak : DS := .brk
def dCont : DS := .cont
/-- behind an expression -/
def dEx (de : DE) (g : T → List T → SR) : DS := fun ρ => match de ρ with
  | .ok t ρ' => g t ρ'
  | .exc e ρ' => .exc e ρ'
  | .bad => .bad
theorem exS {de : DE} {g : T → List T → SR} {R : V → Hp → Prop} (h : tS C W pn (dEx de g) D σ H) (hr : ∀ w H t ρ v, Stt C w H (t :: ρ) (some v :: σ) → kS C W pn w H σ D (g t ρ) → R v H) : tE C W de σ H R := by
  obtain ⟨w, ρ, S, k⟩ := h
  refine ⟨w, ρ, S, ?_⟩
  unfold dEx at k
  cases e : de ρ with
  | bad => rw [e] at k; exact k
  | exc x ρ1 =>
    rw [e] at k
    exact fun w1 H1 cls dx A1 S1 x1 => k w1 H1 σ cls dx A1 S1 .refl x1
  | ok t ρ1 =>
    rw [e] at k
    exact fun w1 H1 v A1 S1 => hr w1 H1 t ρ1 v S1 (kS.after A1 .refl k)
def dRet (de : DE) : DS := dEx de .ret
theorem ss_ret {e : Expr} {de : DE} {pos : Pos} (h : SE X ca W e de) : SS X ca W pn (.Return (some e) pos) (dRet de) := ⟨PS.imp (ps_ret h.pe) fun D σ H q => exS q fun w H t ρ v S k => k w H σ v .refl S .refl⟩
def dRetN : DS := fun ρ => .ret (.imm false .non) ρ
def dDrop (de : DE) : DS := dEx de fun _ ρ => .next ρ
theorem ss_expr {e : Expr} {de : DE} {pos : Pos} (h : SE X ca W e de) (hs : swapsWith e none pos.line X.env = pure false := by rfl) : SS X ca W pn (.Expr e pos) (dDrop de) := ⟨PS.imp (ps_expr h.pe hs) fun D σ H q => exS q fun w H t ρ v S k => k w H σ .refl S.drop .refl⟩
/-- behind a test -/
def dIf (c : DT) (a b : DS) : DS := fun ρ => match c ρ with
  | .ok x ρ' => if x then a ρ' else b ρ'
  | .exc e ρ' => .exc e ρ'
  | .bad => .bad
theorem ss_if {c : Expr} {a b : List Stmt} {dc : DT} {da db : DS} {pos : Pos} (hc : ST X ca W c dc) (ha : SB X ca W pn a da) (hb : SB X ca W pn b db) : SS X ca W pn (.If c a b pos) (dIf dc da db) := ⟨PS.imp (ps_if hc.pt ha.pss hb.pss) fun D σ H h => by
  obtain ⟨w, ρ, S, k⟩ := h
  refine ⟨w, ρ, S, ?_⟩
  unfold dIf at k
  cases e : dc ρ with
  | bad => rw [e] at k; exact k
  | exc x ρ1 =>
    rw [e] at k
    exact fun w1 H1 cls dx A1 S1 x1 => k w1 H1 σ cls dx A1 S1 .refl x1
  | ok x ρ1 =>
    rw [e] at k
    intro w1 H1 A1 S1
    cases x with
    | true => exact ⟨w1, ρ1, S1, kS.after A1 .refl k⟩
    | false => exact ⟨w1, ρ1, S1, kS.after A1 .refl k⟩⟩
/-- name = e -/
def dSet (i : Nat) (de : DE) : DS := dEx de fun t ρ => .next (ρ.set i t)
theorem Same'.set {i : Nat} {x : Option V} (h : i ∉ pn) : Same' pn σ (σ.set i x) := fun j hj => by
  rw [List.getElem?_set_ne]
  rintro rfl
  exact h hj
theorem setS {i : Nat} {de : DE} (h : tS C W pn (dSet i de) D σ H) (hi : i < σ.length) (hp : i ∉ pn) : tAsg (tE C W de) (gName i) D σ H :=
  exS h fun w H t ρ v S k => by
    have hl : (t :: ρ).length = (some v :: σ).length := S.len
    exact k w H (σ.set i (some v)) .refl (S.put (by simp at hl; omega)) (Same'.set hp)
end
end Gb

namespace Gb
open PySem PySem.Spec L2

theorem PS.impL {X : Cx} {st : Stmt} {t t' : TS} (h : PS X st t) (i : ∀ D σ H, σ.length = X.N.length → t' D σ H → t D σ H) : PS X st t' := ⟨fun pins s σ H D I q => h.run pins s σ H D I (i D σ H I.len q)⟩
theorem PG.impL {X : Cx} {e : Expr} {t t' : TG} (h : PG X e t) (i : ∀ v σ H Q, σ.length = X.N.length → t' v σ H Q → t v σ H Q) : PG X e t' := ⟨fun pins s σ H v u Q I r q => h.run pins s σ H v u Q I r (i v σ H Q I.len q)⟩

/-! targets -/
abbrev DG := T → List T → Option (List T)
def Chg (ch : List Nat) (σ σ' : L2.St) : Prop := σ'.length = σ.length ∧ ∀ i, i ∉ ch → σ'[i]? = σ[i]?
def tG (C : Ct) (ch : List Nat) (dg : DG) : TG := fun v σ H Q => ∃ w ρ t ρ', Stt C w H (t :: ρ) (some v :: σ) ∧ dg t ρ = some ρ' ∧ ∀ w' H' σ', After w H w' H' → Stt C w' H' ρ' σ' → Chg ch σ σ' → Q σ' H'
structure SG (X : Cx) (ca : Cad) (ch : List Nat) (e : Expr) (dg : DG) : Prop where
  pg : PG X e (tG ⟨X.K, ca⟩ ch dg)
def dgName (i : Nat) : DG := fun t ρ => some (ρ.set i t)
section
variable {C : Ct} {W : WX} {pn ch : List Nat} {w w' : Wd} {H H' : Hp} {σ σ' : L2.St} {En : Ends} {X : Cx} {ca : Cad}
theorem Chg.same (h : Chg ch σ σ') (d : ∀ i ∈ pn, i ∉ ch) : Same' pn σ σ' := fun i hi => h.2 i (d i hi)
theorem Chg.set {i : Nat} {x : Option V} (h : i ∈ ch) : Chg ch σ (σ.set i x) := ⟨by simp, fun j hj => by
  rw [List.getElem?_set_ne]
  rintro rfl
  exact hj h⟩
theorem sg_name {i : Nat} {x : Str} {pos : Pos} (hN : X.N.Nodup) (hi : X.N[i]? = some x) (hx : Loc X.env.scope x) (hf : X.fn x = true ∨ X.env.scope.names.lookup x = some .local := by first | exact .inl rfl | exact .inr rfl | assumption) : SG X ca [i] (.Name x pos) (dgName i) :=
  ⟨PG.impL (pg_name hN hi hx hf) fun v σ H Q l h => by
    obtain ⟨w, ρ, t, ρ', S, e, k⟩ := h
    cases e
    have hl : (t :: ρ).length = (some v :: σ).length := S.len
    have hi' : i < X.N.length := (List.getElem?_eq_some_iff.mp hi).1
    exact k w H _ .refl (S.put (by simp at hl; omega)) (Chg.set (by simp))⟩
/-- several targets for the parts of a tuple -/
abbrev DGs := Bool → List D → List T → Option (List T)
def tGs (C : Ct) (ch : List Nat) (dg : DGs) : TGs := fun vs σ H Q => ∃ w ρ b ds ρ', Stt C w H ρ σ ∧ RDs C H (w.im b) ds vs ∧ dg b ds ρ = some ρ' ∧ ∀ w' H' σ', After w H w' H' → Stt C w' H' ρ' σ' → Chg ch σ σ' → Q σ' H'
structure SGs (X : Cx) (ca : Cad) (ch : List Nat) (es : List Expr) (dg : DGs) : Prop where
  pgs : PGs X es (tGs ⟨X.K, ca⟩ ch dg)
def dgNil : DGs := fun _ ds ρ => match ds with | [] => some ρ | _ :: _ => none
def dgCons (g : DG) (r : DGs) : DGs := fun b ds ρ => match ds with
  | [] => none
  | d :: ds => match g (.imm b d) ρ with
    | some ρ' => r b ds ρ'
    | none => none
theorem PGs.imp {X : Cx} {e : List Expr} {t t' : TGs} (h : PGs X e t) (i : ∀ v σ H Q, t' v σ H Q → t v σ H Q) : PGs X e t' := ⟨fun pins s σ H v u Q I r q => h.run pins s σ H v u Q I r (i v σ H Q q)⟩
theorem sgs_nil : SGs X ca ch [] dgNil := ⟨PGs.imp pgs_nil fun v σ H Q h => by
  obtain ⟨w, ρ, b, ds, ρ', S, r, e, k⟩ := h
  cases ds with
  | cons d ds => cases e
  | nil =>
    cases e
    exact ⟨r, k w H σ .refl S ⟨rfl, fun _ _ => rfl⟩⟩⟩
theorem After.im {b : Bool} (A : After w H w' H') : ∀ a, w.im b a → w'.im b a ∧ H' a = H a := fun a z => by
  rcases z with z | ⟨z1, z2⟩
  · exact ⟨.inl (A.I a z), A.keep a (.inl z)⟩
  · exact ⟨.inr ⟨z1, by rw [A.B]; exact z2⟩, A.keep a (.inr (.inl z2))⟩
theorem sgs_cons {ch1 : List Nat} {e : Expr} {es : List Expr} {g : DG} {r : DGs} (h1 : SG X ca ch1 e g) (h2 : SGs X ca ch es r) (hc : ∀ i ∈ ch1, i ∈ ch)
    (hs : (assignEach (e :: es) X.env).map (·.2) = assign e X.env :: (assignEach es X.env).map (·.2) := by rfl) : SGs X ca ch (e :: es) (dgCons g r) := ⟨PGs.imp (pgs_cons h1.pg h2.pgs hs) fun v σ H Q h => by
  obtain ⟨w, ρ, b, ds, ρ', S, rd, e, k⟩ := h
  cases ds with
  | nil => cases e
  | cons d ds =>
    obtain ⟨x, xs, rfl, hx, hxs⟩ := rd
    unfold dgCons at e
    cases eg : g (.imm b d) ρ with
    | none => simp [eg] at e
    | some ρ1 =>
      simp only [eg] at e
      refine ⟨x, xs, rfl, w, ρ, .imm b d, ρ1, S.cons_imm hx, eg, fun w1 H1 σ1 A1 S1 c1 => ?_⟩
      refine ⟨w1, ρ1, b, ds, ρ', S1, RDs_mono A1.im _ _ hxs, e, fun w2 H2 σ2 A2 S2 c2 => ?_⟩
      exact k w2 H2 σ2 (A1.trans A2) S2 ⟨c2.1.trans c1.1, fun i hi => (c2.2 i hi).trans (c1.2 i fun z => hi (hc i z))⟩⟩
def dgTup (g : DGs) : DG := fun t ρ => match t with
  | .imm b (.tup ds) => g b ds ρ
  | _ => none
theorem sg_tup {es : List Expr} {k : Nat} {g : DGs} {n : Nat} {pos : Pos} (hc : X.calm = true) (h : SGs X ca ch es g) (hg : ∀ b ds ρ ρ', g b ds ρ = some ρ' → ds.length = n)
    (hn : (assignEach es X.env).length = n := by rfl) (hst : (assignEach es X.env).findIdx? (·.1) = none := by rfl) : SG X ca ch (.Tuple es k pos) (dgTup g) := ⟨PG.impL (pg_tup hc h.pgs hn hst) fun v σ H Q l q => by
  obtain ⟨w, ρ, t, ρ', S, e, k⟩ := q
  unfold dgTup at e
  cases t with
  | imm b d =>
    cases d with
    | tup ds =>
      obtain ⟨x, ex, a, vs, rfl, ta, rd⟩ := S.head_imm
      cases ex
      exact ⟨a, vs, rfl, .of ta.2, by rw [← rd.length]; exact hg _ _ _ _ e, w, ρ, b, ds, ρ', S.drop, rd, e, k⟩
    | _ => simp at e
  | _ => simp at e⟩
theorem dgNil_len : ∀ b ds ρ ρ', dgNil b ds ρ = some ρ' → ds.length = 0
  | _, [], _, _, _ => rfl
  | _, _ :: _, _, _, e => by simp [dgNil] at e
theorem dgCons_len {g : DG} {r : DGs} {n : Nat} (h : ∀ b ds ρ ρ', r b ds ρ = some ρ' → ds.length = n) : ∀ b ds ρ ρ', dgCons g r b ds ρ = some ρ' → ds.length = n + 1
  | _, [], _, _, e => by simp [dgCons] at e
  | b, d :: ds, ρ, ρ', e => by
    unfold dgCons at e
    cases eg : g (.imm b d) ρ with
    | none => simp [eg] at e
    | some ρ1 =>
      simp only [eg] at e
      simp [h _ _ _ _ e]
def dAsg (dg : DG) (de : DE) : DS := dEx de fun t ρ => match dg t ρ with | some ρ' => .next ρ' | none => .bad
theorem asgS {dg : DG} {de : DE} (h : tS C W pn (dAsg dg de) En σ H) (hp : ∀ i ∈ pn, i ∉ ch) : tAsg (tE C W de) (tG C ch dg) En σ H :=
  exS h fun w H t ρ v S k => by
    cases e : dg t ρ with
    | none => simp [e, kS] at k
    | some ρ' =>
      simp only [e] at k
      exact ⟨w, ρ, t, ρ', S, e, fun w' H' σ' A S' c => k w' H' σ' A S' (c.same hp)⟩
theorem ss_set {i : Nat} {x : Str} {e : Expr} {de : DE} {pos pos' : Pos} (hN : X.N.Nodup) (hi : X.N[i]? = some x) (hx : Loc X.env.scope x) (he : SE X ca W e de) (hp : i ∉ pn := by decide) (hs : swapsWith e (some (.Name x pos')) pos.line X.env = pure false := by rfl)
    (hf : X.fn x = true ∨ X.env.scope.names.lookup x = some .local := by first | exact .inl rfl | exact .inr rfl | assumption) : SS X ca W pn (.Assign [.Name x pos'] e pos) (dSet i de) :=
  ⟨PS.impL (ps_set hN hi hx he.pe hs hf) fun D σ H l h => setS h (by rw [l]; exact (List.getElem?_eq_some_iff.mp hi).1) hp⟩
theorem ss_asg {tg e : Expr} {de : DE} {dg : DG} {pos : Pos} (he : SE X ca W e de) (hg : SG X ca ch tg dg) (hp : ∀ i ∈ pn, i ∉ ch := by decide) (hs : swapsWithSole [tg] e pos.line X.env = pure false := by rfl) (hw : swappedStores [tg] e X.env = pure none := by rfl)
    (h1 : (assignEach [tg] X.env).map (·.2) = [assign tg X.env] := by rfl) : SS X ca W pn (.Assign [tg] e pos) (dAsg dg de) :=
  ⟨PS.imp (ps_asg he.pe hg.pg hs hw h1) fun D σ H h => asgS h hp⟩

/-! what is walked -/
structure Walk (C : Ct) (w : Wd) (H : Hp) (J : It) (b : Bool) (ds : List D) : Prop where
  go : ∀ i w' H', i < ds.length → After w H w' H' → J.go i H'
  yld : ∀ i d w' H' ρ σ x H'', ds[i]? = some d → After w H w' H' → Stt C w' H' ρ σ → J.yld i H' x H'' → ∃ w'', After w' H' w'' H'' ∧ Stt C w'' H'' (.imm b d :: ρ) (some x :: σ)
  stop : ∀ w' H', After w H w' H' → J.stop ds.length H'
  line : ds.length ≤ sizeLine
abbrev DI := List T → ER (Bool × List D)
def kI (C : Ct) (W : WX) (w : Wd) (H : Hp) (σ : L2.St) (R : It → Hp → Prop) : ER (Bool × List D) → Prop
  | .ok p ρ' => ∀ w' H' J, After w H w' H' → Stt C w' H' ρ' σ → Walk C w' H' J p.1 p.2 → R J H'
  | .exc e ρ' => ∀ w' H' cls dx, After w H w' H' → Stt C w' H' ρ' σ → ExAt C w'.I H' e cls dx → W cls dx σ H'
  | .bad => False
theorem kI.after {R : It → Hp → Prop} (A : After w H w' H') : {r : ER (Bool × List D)} → kI C W w H σ R r → kI C W w' H' σ R r
  | .ok p ρ, k => fun w2 H2 J A2 S => k w2 H2 J (A.trans A2) S
  | .exc e ρ, k => fun w2 H2 cls dx A2 S x => k w2 H2 cls dx (A.trans A2) S x
  | .bad, k => k
def tI (C : Ct) (W : WX) (d : DI) : TI := fun σ H R => ∃ w ρ, Stt C w H ρ σ ∧ kI C W w H σ R (d ρ)
structure SI (X : Cx) (ca : Cad) (W : WX) (tg e : Expr) (d : DI) : Prop where
  pi : PI X tg e (tI ⟨X.K, ca⟩ W d)
theorem PI.imp {X : Cx} {tg e : Expr} {t t' : TI} (h : PI X tg e t) (i : ∀ σ H Q, t' σ H Q → t σ H Q) : PI X tg e t' := ⟨fun pins s σ H Q I q => h.run pins s σ H Q I (i σ H Q q)⟩
theorem LstAt.after {b : Bool} {a : Addr} {vs : List V} (h : LstAt C H (w.im b) a vs) (A : After w H w' H') : LstAt C H' (w'.im b) a vs := h.mono A.im
theorem TupAt.after {b : Bool} {a : Addr} {vs : List V} (h : TupAt C H (w.im b) a vs) (A : After w H w' H') : TupAt C H' (w'.im b) a vs := h.mono A.im
theorem walk_list {a : Addr} {vs : List V} {b : Bool} {ds : List D} (h : LstAt C H (w.im b) a vs) (r : RDs C H (w.im b) ds vs) (hl : ds.length ≤ sizeLine) : Walk C w H (Itl C.K a) b ds where
  go := fun i w' H' hi A => by
    obtain ⟨d, hd⟩ : ∃ d, ds[i]? = some d := ⟨ds[i], List.getElem?_eq_getElem hi⟩
    obtain ⟨v, hv, _⟩ := r.get hd
    exact ⟨vs, v, (h.after A).sq, hv⟩
  yld := fun i d w' H' ρ σ x H'' hd A S ⟨e, q⟩ => by
    subst e
    obtain ⟨v, hv, rv⟩ := r.get hd
    have e := q vs (h.after A).sq
    rw [hv] at e; cases e
    exact ⟨w', .refl, S.cons_imm (RD_mono A.im _ _ rv)⟩
  stop := fun w' H' A => ⟨vs, (h.after A).sq, by rw [r.length]; exact Nat.le_refl _⟩
  line := hl
theorem walk_tup {a : Addr} {vs : List V} {b : Bool} {ds : List D} (h : TupAt C H (w.im b) a vs) (r : RDs C H (w.im b) ds vs) (hl : ds.length ≤ sizeLine) : Walk C w H (Itt C.K a) b ds where
  go := fun i w' H' hi A => by
    obtain ⟨d, hd⟩ : ∃ d, ds[i]? = some d := ⟨ds[i], List.getElem?_eq_getElem hi⟩
    obtain ⟨v, hv, _⟩ := r.get hd
    exact ⟨vs, v, (h.after A).sq, hv⟩
  yld := fun i d w' H' ρ σ x H'' hd A S ⟨e, q⟩ => by
    subst e
    obtain ⟨v, hv, rv⟩ := r.get hd
    have e := q vs (h.after A).sq
    rw [hv] at e; cases e
    exact ⟨w', .refl, S.cons_imm (RD_mono A.im _ _ rv)⟩
  stop := fun w' H' A => ⟨vs, (h.after A).sq, by rw [r.length]; exact Nat.le_refl _⟩
  line := hl
def rangeD (lo : Int) (n : Nat) : List D := (List.range n).map fun (i : Nat) => D.int (lo + i)
theorem walk_range {lo : Int} {n : Nat} (hl : n ≤ sizeLine) : Walk C w H (Itr lo n) false (rangeD lo n) where
  go := fun i w' H' hi A => by simpa [rangeD, Itr] using hi
  yld := fun i d w' H' ρ σ x H'' hd A S ⟨e, q⟩ => by
    subst e; subst q
    have hd' : d = .int (lo + i) := by
      unfold rangeD at hd
      rw [List.getElem?_map] at hd
      by_cases hi : i < n
      · rw [List.getElem?_range hi] at hd
        simpa using hd.symm
      · rw [List.getElem?_eq_none (by simpa using hi)] at hd
        simp at hd
    subst hd'
    exact ⟨w', .refl, S.cons_imm rfl⟩
  stop := fun w' H' A => by simp [rangeD, Itr]
  line := by simpa [rangeD] using hl
def strD (x : Str) : List D := x.cps.toList.map fun c => D.str ⟨#[c]⟩
theorem walk_str {x : Str} (hl : x.length ≤ sizeLine) : Walk C w H (Its x) false (strD x) where
  go := fun i w' H' hi A => by simpa [strD, Its] using hi
  yld := fun i d w' H' ρ σ y H'' hd A S ⟨e, c, hc, q⟩ => by
    subst e; subst q
    have hd' : d = .str ⟨#[c]⟩ := by
      unfold strD at hd
      rw [List.getElem?_map, Array.getElem?_toList, hc] at hd
      simpa using hd.symm
    subst hd'
    exact ⟨w', .refl, S.cons_imm rfl⟩
  stop := fun w' H' A => by simp [strD, Its]
  line := by simpa [strD, Str.length] using hl
/-- a list, a tuple or a text is walked -/
def iAny (K : PySem.W.Frag) (tl : TE) : TI := fun σ H R => tl σ H fun x H1 => (∃ a xs, x = .ref a ∧ SqL K H1 a xs ∧ (xs.length ≤ sizeLine → R (Itl K a) H1)) ∨ (∃ a xs, x = .ref a ∧ SqT K H1 a xs ∧ (xs.length ≤ sizeLine → R (Itt K a) H1)) ∨ (∃ z, x = .str z ∧ R (Its z) H1)
theorem pi_any {tg l : Expr} {tl : TE} (hl : PE X l tl) : PI X tg l (iAny X.K tl) := by
  refine ⟨fun pins s σ H R I h => ?_⟩
  refine thn (hl.run pins s σ H _ I h) fun v s1 ⟨x, H1, I1, r1, q1⟩ => ?_
  rcases q1 with ⟨a, xs, e, hq, q⟩ | ⟨a, xs, e, hq, q⟩ | ⟨z, e, q⟩
  · subst e
    cases r1
    obtain ⟨its, rv, p, hz⟩ := I1.list hq
    refine wpAny_pyIter_list p.isList ?_
    refine ⟨s1.heap.objs.size, [s1.heap.objs.size], _, _, H1, rfl, I1.kept (t' := s1.toks) fun b o e => Heap.get?_push_of_some _ e, turn_list a _, ⟨_, Heap.get?_push_size _ rfl, rfl, rfl⟩, fun b hb => ?_, q hz⟩
    have e : b = s1.heap.objs.size := by simpa using hb
    subst e
    exact I1.fpOk (Nat.le_refl _) (I1.hok.fresh (Nat.le_refl _))
  · subst e
    cases r1
    obtain ⟨its, rv, p, hz⟩ := I1.tuple hq
    refine wpAny_pyIter_tuple (show s1.heap.IsTuple a its.toArray from p) ?_
    refine ⟨s1.heap.objs.size, [s1.heap.objs.size], _, _, H1, rfl, I1.kept (t' := s1.toks) fun b o e => Heap.get?_push_of_some _ e, turn_tuple a _, ⟨_, Heap.get?_push_size _ rfl, rfl, rfl⟩, fun b hb => ?_, q hz⟩
    have e : b = s1.heap.objs.size := by simpa using hb
    subst e
    exact I1.fpOk (Nat.le_refl _) (I1.hok.fresh (Nat.le_refl _))
  · subst e
    obtain ⟨t, rfl⟩ := r1
    cases ha : z.cps.all (· < 128)
    · exact wpAny_pyIter_wide ha (pi_one (tk := s1.toks) I1 _ (turn_str _ z t "str_iterator" (.inr rfl)) ⟨_, Heap.get?_push_size _ rfl, rfl, rfl⟩ q)
    · exact wpAny_pyIter_ascii ha (pi_one (tk := s1.toks) I1 _ (turn_str _ z t "str_ascii_iterator" (.inl rfl)) ⟨_, Heap.get?_push_size _ rfl, rfl, rfl⟩ q)
def itemsOf : T → List T → ER (Bool × List D)
  | .imm b (.lst ds), ρ => .ok (b, ds) ρ
  | .imm b (.scr ns), ρ => .ok (b, ns.map D.int) ρ
  | .imm b (.tup ds), ρ => .ok (b, ds) ρ
  | .imm _ (.str x), ρ => if x.length ≤ sizeLine then .ok (false, strD x) ρ else .bad
  | _, _ => .bad
def diVal (de : DE) : DI := fun ρ => (de ρ).bind itemsOf
theorem exI {de : DE} {g : T → List T → ER (Bool × List D)} {R : It → Hp → Prop} {R' : V → Hp → Prop} (h : tI C W (fun ρ => (de ρ).bind g) σ H R) (hr : ∀ w H t ρ v, Stt C w H (t :: ρ) (some v :: σ) → kI C W w H σ R (g t ρ) → R' v H) : tE C W de σ H R' := by
  obtain ⟨w, ρ, S, k⟩ := h
  refine ⟨w, ρ, S, ?_⟩
  cases e : de ρ with
  | bad => simp only [e] at k; exact k
  | exc x ρ1 => simp only [e] at k; exact k
  | ok t ρ1 =>
    simp only [e] at k
    exact fun w1 H1 v A1 S1 => hr w1 H1 t ρ1 v S1 (kI.after A1 k)
theorem si_val {tg e : Expr} {de : DE} (h : SE X ca W e de) : SI X ca W tg e (diVal de) := ⟨PI.imp (pi_any h.pe) fun σ H R q => exI q fun w H t ρ v S k => by
  cases t with
  | imm b d =>
    cases d with
    | lst ds =>
      obtain ⟨x, ex, a, vs, rfl, la, rd⟩ := S.head_imm
      cases ex
      exact .inl ⟨a, vs, rfl, .of la.2, fun hl => k w H _ .refl S.drop (walk_list (.inl ⟨la.1, .of la.2⟩) rd (by rw [rd.length]; exact hl))⟩
    | scr ns =>
      obtain ⟨x, ex, a, rfl, la⟩ := S.head_imm
      cases ex
      exact .inl ⟨a, _, rfl, la.sq, fun hl => k w H _ .refl S.drop (walk_list la (.of_ints ns) (by simpa using hl))⟩
    | tup ds =>
      obtain ⟨x, ex, a, vs, rfl, la, rd⟩ := S.head_imm
      cases ex
      exact .inr (.inl ⟨a, vs, rfl, .of la.2, fun hl => k w H _ .refl S.drop (walk_tup (.inl ⟨la.1, .of la.2⟩) rd (by rw [rd.length]; exact hl))⟩)
    | str x =>
      obtain ⟨y, ey, r⟩ := S.head_imm
      cases ey
      have r' : v = .str x := r
      simp only [itemsOf] at k
      split at k
      · rename_i hl
        exact .inr (.inr ⟨x, r', k w H _ .refl S.drop (walk_str hl)⟩)
      · exact (show False from k).elim
    | _ => exact (show False from k).elim
  | _ => exact (show False from k).elim⟩
theorem exIA {da : DA} {g : List T → List T → ER (Bool × List D)} {R : It → Hp → Prop} {R' : List V → Hp → Prop} (h : tI C W (fun ρ => (da ρ).bind g) σ H R) (hr : ∀ w H ts ρ vs, vs.length = ts.length → Stt C w H (ts ++ ρ) (vs.map some ++ σ) → kI C W w H σ R (g ts ρ) → R' vs H) : tA C W da σ H R' := by
  obtain ⟨w, ρ, S, k⟩ := h
  refine ⟨w, ρ, S, ?_⟩
  cases e : da ρ with
  | bad => simp only [e] at k; exact k
  | exc x ρ1 => simp only [e] at k; exact k
  | ok t ρ1 =>
    simp only [e] at k
    exact fun w1 H1 v l A1 S1 => hr w1 H1 t ρ1 v l S1 (kI.after A1 k)
def rangeItems1 : List T → List T → ER (Bool × List D)
  | [.imm _ (.int n)], ρ => if -16777216 < n ∧ n < 16777216 then .ok (false, rangeD 0 n.toNat) ρ else .bad
  | _, _ => .bad
def rangeItems2 : List T → List T → ER (Bool × List D)
  | [.imm _ (.int a), .imm _ (.int b)], ρ => if -4611686018427387904 ≤ a ∧ a < 4611686018427387904 ∧ -4611686018427387904 ≤ b ∧ b < 4611686018427387904 ∧ b - a ≤ 16777216 then .ok (false, rangeD a (b - a).toNat) ρ else .bad
  | _, _ => .bad
theorem vs1 {vs : List V} (l : vs.length = 1) : ∃ v, vs = [v] := by
  match vs, l with
  | [v], _ => exact ⟨v, rfl⟩
theorem vs2 {vs : List V} (l : vs.length = 2) : ∃ v u, vs = [v, u] := by
  match vs, l with
  | [v, u], _ => exact ⟨v, u, rfl⟩
def diRange1 (da : DA) : DI := fun ρ => (da ρ).bind rangeItems1
def diRange2 (da : DA) : DI := fun ρ => (da ρ).bind rangeItems2
theorem Stt.head_int {b : Bool} {n : Int} {ρ : List T} {v : V} (S : Stt C w H (.imm b (.int n) :: ρ) (some v :: σ)) : v = .int n := by
  obtain ⟨x, ex, r⟩ := S.head_imm
  cases ex
  exact r
theorem si_range1 {tg a : Expr} {da : DA} {p pos : Pos} (hm : X.mg "range" = none) (ha : SA X ca W [a] da) (hg : Gl X "range" := by rfl) (hs : starEach [a] X.env = [(false, eval a X.env)] := by rfl) : SI X ca W tg (.Call (.Name "range" p) [a] [] pos) (diRange1 da) :=
  ⟨PI.imp (pi_range1 hg hm ha.pa hs) fun σ H R q => exIA q fun w H ts ρ vs l S k => by
    unfold rangeItems1 at k
    split at k
    · rename_i b n
      split at k
      · obtain ⟨v, rfl⟩ := vs1 l
        have S' : Stt _ w H (.imm b (.int n) :: ρ) (some v :: σ) := S
        have e := S'.head_int
        subst e
        exact ⟨n, rfl, by omega, by omega, k w H _ .refl S'.drop (walk_range (by rw [sizeLine_eq]; omega))⟩
      · exact (show False from k).elim
    · exact (show False from k).elim⟩
/-! loops -/
def forL (dg : DG) (body : DS) (b : Bool) : List D → DS
  | [], ρ => .next ρ
  | d :: ds, ρ => match dg (.imm b d) ρ with
    | none => .bad
    | some ρ1 => match body ρ1 with
      | .next ρ2 => forL dg body b ds ρ2
      | .cont ρ2 => forL dg body b ds ρ2
      | .brk ρ2 => .next ρ2
      | .ret t ρ2 => .ret t ρ2
      | .exc e ρ2 => .exc e ρ2
      | .bad => .bad
def dFor (dg : DG) (di : DI) (body : DS) : DS := fun ρ => match di ρ with
  | .ok p ρ' => forL dg body p.1 p.2 ρ'
  | .exc e ρ' => .exc e ρ'
  | .bad => .bad
theorem ss_for {tg iter : Expr} {body : List Stmt} {dg : DG} {di : DI} {db : DS} {pos : Pos} (hp : PassesOwn (model X.prog X.w) X.A X.env X.xe) (hc : X.calm = true) (hi : SI X ca W tg iter di) (hg : SG X ca ch tg dg) (hb : SB X ca W pn body db)
    (hd : ∀ i ∈ pn, i ∉ ch := by decide) (hs : ∀ x, foldedSetIterable iter X.env x = pure x := by intro _; rfl) : SS X ca W pn (.For tg iter body [] pos) (dFor dg di db) := ⟨PS.imp (ps_for hp hc hi.pi hg.pg hb.pss hs) fun En σ H h => by
  obtain ⟨w, ρ, S, k⟩ := h
  refine ⟨w, ρ, S, ?_⟩
  unfold dFor at k
  cases e : di ρ with
  | bad => rw [e] at k; exact k
  | exc x ρ1 =>
    rw [e] at k
    exact fun w1 H1 cls dx A1 S1 x1 => k w1 H1 σ cls dx A1 S1 .refl x1
  | ok p ρ1 =>
    rw [e] at k
    obtain ⟨b, ds⟩ := p
    intro w1 H1 J A1 S1 wk
    have wk : Walk _ w1 H1 J b ds := wk
    refine ⟨fun i m σ' H' => m = ds.length - i ∧ i ≤ ds.length ∧ ∃ w' ρ', After w1 H1 w' H' ∧ Stt _ w' H' ρ' σ' ∧ kS _ W pn w' H' σ' En (forL dg db b (ds.drop i) ρ'), ⟨ds.length, by simp, Nat.zero_le _, w1, ρ1, .refl, S1, by simpa using kS.after A1 .refl k⟩, ?_⟩
    rintro i m σ2 H2 ⟨rfl, hi, w2, ρ2, A2, S2, k2⟩
    by_cases hl : i < ds.length
    · refine .inr ⟨wk.go i w2 H2 hl A2, fun σ' H' => ∃ w' ρ', After w1 H1 w' H' ∧ Stt _ w' H' ρ' σ' ∧ kS _ W pn w' H' σ' En (forL dg db b (ds.drop (i + 1)) ρ'), fun σ' H' z => ⟨ds.length - (i + 1), by omega, rfl, hl, z⟩, fun x H3 y => ?_⟩
      have hd' : ds[i]? = some ds[i] := List.getElem?_eq_getElem hl
      obtain ⟨w3, A3, S3⟩ := wk.yld i _ w2 H2 ρ2 σ2 x H3 hd' A2 S2 y
      rw [List.drop_eq_getElem_cons hl] at k2
      unfold forL at k2
      cases eg : dg (.imm b ds[i]) ρ2 with
      | none => rw [eg] at k2; exact (show False from k2).elim
      | some ρ3 =>
        simp only [eg] at k2
        refine ⟨w3, ρ2, _, ρ3, S3, eg, fun w4 H4 σ4 A4 S4 c4 => ?_⟩
        have k4 := kS.after (A3.trans A4) (c4.same hd) k2
        refine ⟨w4, ρ3, S4, ?_⟩
        have A14 := A2.trans (A3.trans A4)
        cases eb : db ρ3 with
        | bad => simp only [eb] at k4; exact k4
        | ret t ρ5 => simp only [eb] at k4; exact k4
        | exc x ρ5 => simp only [eb] at k4; exact k4
        | brk ρ5 => simp only [eb] at k4; exact k4
        | next ρ5 =>
          simp only [eb] at k4
          exact fun w5 H5 σ5 A5 S5 P5 => ⟨w5, ρ5, A14.trans A5, S5, kS.after A5 P5 k4⟩
        | cont ρ5 =>
          simp only [eb] at k4
          exact fun w5 H5 σ5 A5 S5 P5 => ⟨w5, ρ5, A14.trans A5, S5, kS.after A5 P5 k4⟩
    · have e : i = ds.length := by omega
      subst e
      refine .inl ⟨wk.stop w2 H2 A2, ?_⟩
      simp [forL] at k2
      exact k2 w2 H2 σ2 .refl S2 .refl⟩
def whileL (c : DT) (body : DS) : Nat → DS
  | 0, _ => .bad
  | n + 1, ρ => match c ρ with
    | .bad => .bad
    | .exc e ρ1 => .exc e ρ1
    | .ok false ρ1 => .next ρ1
    | .ok true ρ1 => match body ρ1 with
      | .next ρ2 => whileL c body n ρ2
      | .cont ρ2 => whileL c body n ρ2
      | .brk ρ2 => .next ρ2
      | .ret t ρ2 => .ret t ρ2
      | .exc e ρ2 => .exc e ρ2
      | .bad => .bad
theorem whileL_mono {c : DT} {body : DS} : ∀ {n : Nat} {ρ : List T} {r : SR}, whileL c body n ρ = r → r ≠ .bad → whileL c body (n + 1) ρ = r
  | 0, ρ, r, h, hr => by
    unfold whileL at h
    exact absurd h.symm hr
  | n + 1, ρ, r, h, hr => by
    unfold whileL at h ⊢
    cases ec : c ρ with
    | bad => rw [ec] at h; exact h
    | exc e ρ1 => rw [ec] at h; exact h
    | ok b ρ1 =>
      rw [ec] at h
      cases b with
      | false => exact h
      | true =>
        simp only at h ⊢
        cases eb : body ρ1 with
        | next ρ2 => simp only [eb] at h ⊢; exact whileL_mono h hr
        | cont ρ2 => simp only [eb] at h ⊢; exact whileL_mono h hr
        | brk ρ2 => simp only [eb] at h ⊢; exact h
        | ret t ρ2 => simp only [eb] at h ⊢; exact h
        | exc e ρ2 => simp only [eb] at h ⊢; exact h
        | bad => simp only [eb] at h ⊢; exact h
theorem whileL_le {c : DT} {body : DS} {n : Nat} {ρ : List T} {r : SR} (h : whileL c body n ρ = r) (hr : r ≠ .bad) : ∀ k, whileL c body (n + k) ρ = r
  | 0 => h
  | k + 1 => whileL_mono (whileL_le h hr k) hr
open Classical in
noncomputable def dWhile (c : DT) (body : DS) : DS := fun ρ => if h : ∃ n, whileL c body n ρ ≠ .bad then whileL c body (Classical.choose h) ρ else .bad
theorem dWhile_eq {c : DT} {body : DS} {n : Nat} {ρ : List T} {r : SR} (h : whileL c body n ρ = r) (hr : r ≠ .bad) : dWhile c body ρ = r := by
  have hx : ∃ n, whileL c body n ρ ≠ .bad := ⟨n, by rw [h]; exact hr⟩
  unfold dWhile
  rw [dif_pos hx]
  have e1 := whileL_le (r := whileL c body (Classical.choose hx) ρ) rfl (Classical.choose_spec hx) n
  have e2 := whileL_le h hr (Classical.choose hx)
  rw [Nat.add_comm] at e2
  rw [← e1, e2]
theorem ss_while {c : Expr} {body : List Stmt} {dc : DT} {db : DS} {pos : Pos} (hp : PassesOwn (model X.prog X.w) X.A X.env X.xe) (hc : ST X ca W c dc) (hb : SB X ca W pn body db) : SS X ca W pn (.While c body [] pos) (dWhile dc db) := ⟨PS.imp (ps_while hp hc.pt hb.pss) fun En σ H h => by
  obtain ⟨w, ρ, S, k⟩ := h
  by_cases hx : ∃ n, whileL dc db n ρ ≠ .bad
  · obtain ⟨n, hn⟩ := hx
    rw [dWhile_eq rfl hn] at k
    refine ⟨fun m σ' H' => ∃ w' ρ', Stt _ w' H' ρ' σ' ∧ kS _ W pn w' H' σ' En (whileL dc db m ρ'), ⟨n, w, ρ, S, k⟩, ?_⟩
    rintro m σ2 H2 ⟨w2, ρ2, S2, k2⟩
    refine ⟨w2, ρ2, S2, ?_⟩
    cases m with
    | zero => exact (show False from k2).elim
    | succ m =>
      unfold whileL at k2
      cases ec : dc ρ2 with
      | bad => rw [ec] at k2; exact k2
      | exc e ρ3 =>
        rw [ec] at k2
        exact fun w1 H1 cls dx A1 S1 x1 => k2 w1 H1 σ2 cls dx A1 S1 .refl x1
      | ok b ρ3 =>
        rw [ec] at k2
        intro w3 H3 A3 S3
        have k3 := kS.after A3 (pn := pn) .refl k2
        cases b with
        | false => exact k3 w3 H3 σ2 .refl S3 .refl
        | true =>
          simp only at k3
          refine ⟨fun σ' H' => ∃ w' ρ', Stt _ w' H' ρ' σ' ∧ kS _ W pn w' H' σ' En (whileL dc db m ρ'), fun σ' H' z => ⟨m, Nat.lt_succ_self _, z⟩, w3, ρ3, S3, ?_⟩
          cases eb : db ρ3 with
          | bad => simp only [eb] at k3; exact k3
          | ret t ρ5 => simp only [eb] at k3; exact k3
          | exc x ρ5 => simp only [eb] at k3; exact k3
          | brk ρ5 => simp only [eb] at k3; exact k3
          | next ρ5 =>
            simp only [eb] at k3
            exact fun w5 H5 σ5 A5 S5 P5 => ⟨w5, ρ5, S5, kS.after A5 P5 k3⟩
          | cont ρ5 =>
            simp only [eb] at k3
            exact fun w5 H5 σ5 A5 S5 P5 => ⟨w5, ρ5, S5, kS.after A5 P5 k3⟩
  · unfold dWhile at k
    rw [dif_neg hx] at k
    exact (show False from k).elim⟩
end
end Gb

namespace Gb
open PySem PySem.Spec L2
section
variable {C : Ct} {W : WX} {pn ch : List Nat} {w w' : Wd} {H H' : Hp} {σ σ' : L2.St} {En : Ends} {X : Cx} {ca : Cad} {ρ : List T} {t u : T} {v x : Option V}
theorem RTs.alt {C : Ct} {w : Wd} {H : Hp} : ∀ {ts : List T} {vs vs' : List (Option V)} {f : List Addr}, RTs C w H ts vs f → vs'.length = vs.length → (∀ i : Nat, ts[i]? = some .dead ∨ vs'[i]? = vs[i]?) → RTs C w H ts vs' f
  | [], vs, vs', f, h, l, _ => by
    obtain ⟨rfl, rfl⟩ := h
    exact ⟨List.length_eq_zero_iff.mp l, rfl⟩
  | t :: ts, vs, vs', f, h, l, k => by
    obtain ⟨v, r, f1, f2, rfl, h1, h2, rfl⟩ := h
    match vs', l with
    | v' :: r', l =>
      have q := RTs.alt (vs' := r') h2 (by simpa using l) fun i => by simpa using k (i + 1)
      refine ⟨v', r', f1, f2, rfl, ?_, q, rfl⟩
      rcases k 0 with e | e
      · have e' : t = .dead := by simpa using e
        subst e'
        exact h1
      · have e' : v' = v := by simpa using e
        subst e'
        exact h1
theorem Stt.alt (h : Stt C w H ρ σ) (l : σ'.length = σ.length) (k : ∀ i : Nat, ρ[i]? = some .dead ∨ σ'[i]? = σ[i]?) : Stt C w H ρ σ' := by
  obtain ⟨F, rt, nd, out, tr, tb⟩ := h
  exact ⟨F, rt.alt l k, nd, out, tr, tb⟩
def killL : List Nat → List T → List T
  | [], ρ => ρ
  | i :: is, ρ => killL is (ρ.set i .dead)
theorem Stt.setDead {i : Nat} (h : Stt C w H ρ σ) : Stt C w H (ρ.set i .dead) σ := by
  by_cases hi : i < ρ.length
  · obtain ⟨v, hv, S⟩ := h.move (List.getElem?_eq_getElem hi)
    exact S.drop
  · rw [List.set_eq_of_length_le (by omega)]; exact h
theorem Stt.kill : ∀ {vs : List Nat} {ρ : List T}, Stt C w H ρ σ → Stt C w H (killL vs ρ) σ
  | [], _, h => h
  | i :: vs, ρ, h => by
    show Stt C w H (killL vs (ρ.set i .dead)) σ
    exact Stt.kill h.setDead
theorem killL_keep : ∀ {vs : List Nat} {ρ : List T} {i : Nat}, ρ[i]? = some .dead → (killL vs ρ)[i]? = some .dead
  | [], _, _, h => h
  | j :: vs, ρ, i, h => by
    show (killL vs (ρ.set j .dead))[i]? = _
    refine killL_keep (ρ := ρ.set j .dead) ?_
    by_cases e : j = i
    · subst e
      rw [List.getElem?_set_self (List.getElem?_eq_some_iff.mp h).1]
    · rw [List.getElem?_set_ne e]; exact h
theorem killL_at : ∀ {vs : List Nat} {ρ : List T} {i : Nat}, i ∈ vs → i < ρ.length → (killL vs ρ)[i]? = some .dead
  | [], _, _, h, _ => by simp at h
  | j :: vs, ρ, i, h, l => by
    show (killL vs (ρ.set j .dead))[i]? = _
    rcases List.mem_cons.mp h with e | h
    · subst e
      exact killL_keep (by rw [List.getElem?_set_self l])
    · exact killL_at h (by simpa using l)
theorem Stt.forget {vs : List Nat} (h : Stt C w H ρ σ) (c : Chg vs σ σ') : Stt C w H (killL vs ρ) σ' := by
  refine h.kill.alt c.1 fun i => ?_
  by_cases hi : i ∈ vs
  · by_cases hl : i < ρ.length
    · exact .inl (killL_at hi hl)
    · right
      have l := h.len
      rw [List.getElem?_eq_none (by have := c.1; omega), List.getElem?_eq_none (by omega)]
  · exact .inr (c.2 i hi)
theorem wipe_at : ∀ {vs : List Nat} {σ : L2.St} {i : Nat}, i ∉ vs → (wipe σ vs)[i]? = σ[i]?
  | [], _, _, _ => rfl
  | j :: vs, σ, i, h => by
    simp only [List.mem_cons, not_or] at h
    show ((wipe σ vs).set j none)[i]? = _
    rw [List.getElem?_set_ne (fun e => h.1 e.symm), wipe_at h.2]
theorem wipe_in : ∀ {vs : List Nat} {σ : L2.St} {i : Nat}, i ∈ vs → i < σ.length → (wipe σ vs)[i]? = some none
  | [], _, _, h, _ => by simp at h
  | j :: vs, σ, i, h, l => by
    show ((wipe σ vs).set j none)[i]? = _
    by_cases e : j = i
    · subst e
      rw [List.getElem?_set_self (by rw [wipe_length]; exact l)]
    · rw [List.getElem?_set_ne e]
      rcases List.mem_cons.mp h with q | q
      · exact absurd q.symm e
      · exact wipe_in q l
theorem chg_wipe {vs : List Nat} : Chg vs σ (wipe σ vs) := ⟨wipe_length _ _, fun i h => wipe_at h⟩
theorem Chg.symm {vs : List Nat} (c : Chg vs σ σ') : Chg vs σ' σ := ⟨c.1.symm, fun i h => (c.2 i h).symm⟩
theorem wipe_chg {vs : List Nat} (c : Chg ch (wipe σ vs) σ') (h : ∀ i ∈ ch, i ∈ vs) : wipe σ' vs = wipe σ vs := by
  have l1 := c.1
  rw [wipe_length] at l1
  refine List.ext_getElem? fun i => ?_
  by_cases hi : i ∈ vs
  · by_cases hl : i < σ.length
    · rw [wipe_in hi (by omega), wipe_in hi hl]
    · rw [List.getElem?_eq_none (by rw [wipe_length]; omega), List.getElem?_eq_none (by rw [wipe_length]; omega)]
  · rw [wipe_at hi, c.2 i fun z => hi (h i z)]
theorem Stt.drop2 (h : Stt C w H (t :: u :: ρ) (v :: x :: σ)) : Stt C w H (t :: ρ) (v :: σ) := by
  obtain ⟨F, ⟨v0, r, f1, f2, e, h1, ⟨v1, r1, g1, g2, e', h3, h4, rfl⟩, rfl⟩, nd, out, tr, tb⟩ := h
  injection e with e1 e2
  subst e1; subst e2
  injection e' with e1 e2
  subst e1; subst e2
  refine ⟨f1 ++ g2, ⟨v, σ, f1, g2, rfl, h1, h4, rfl⟩, ?_, fun a ha => out a ?_, tr, tb⟩
  · exact nd.sublist (List.Sublist.append (List.Sublist.refl _) (List.sublist_append_right _ _))
  · rcases List.mem_append.mp ha with z | z
    · exact List.mem_append_left _ z
    · exact List.mem_append_right _ (List.mem_append_right _ z)
/-- the list in front is put otherwise -/
theorem Stt.wr {ds ds' : List D} {p : Addr} {vs' : List V} (h : Stt C w H (.lstI ds :: ρ) (some (.ref p) :: σ)) (r : RDs C H w.I ds' vs') : After w H w (upd H p (.lst vs')) ∧ Stt C w (upd H p (.lst vs')) (.lstI ds' :: ρ) (some (.ref p) :: σ) := by
  obtain ⟨F, ⟨v0, r0, f1, f2, e, ⟨a, vs, e3, g, rd, rfl⟩, h2, rfl⟩, nd, out, tr, tb⟩ := h
  injection e with e1 e2
  subst e1; subst e2
  cases e3
  have op := out p (by simp)
  have ne : ∀ b, (w.I b ∨ w.B b ∨ w.R b) → b ≠ p := fun b z e => by
    subst e
    rcases z with z | z | z
    · exact op.1 z
    · exact op.2.1 z
    · exact op.2.2 z
  have nf : ∀ b ∈ f2, b ≠ p := fun b hb e => by
    subst e
    exact (List.nodup_append.mp nd).2.2 b (by simp) b hb rfl
  refine ⟨⟨fun _ z => z, rfl, rfl, fun _ z => .inl z, fun b z => upd_ne (ne b z)⟩, [p] ++ f2, ⟨_, σ, [p], f2, rfl, ⟨p, vs', rfl, upd_same, ?_, rfl⟩, ?_, rfl⟩, nd, out, fun b z => ?_, tabs_wr tb g⟩
  · exact RDs_mono (fun b z => ⟨z, upd_ne (ne b (.inl z))⟩) _ _ r
  · exact RTs_mono (w := w) (H := H) (fun b z => ⟨z, upd_ne (ne b (.inl z))⟩) (fun b z => ⟨z, upd_ne (ne b (.inr (.inl z)))⟩) _ _ _ (fun b hb => upd_ne (nf b hb)) h2
  · rw [upd_ne (ne b z)]; exact tr b z
theorem Stt.head_lstI {ds : List D} (h : Stt C w H (.lstI ds :: ρ) (v :: σ)) : ∃ p vs, v = some (.ref p) ∧ H p = some (.lst vs) ∧ RDs C H w.I ds vs := by
  obtain ⟨F, ⟨v0, r0, f1, f2, e, ⟨a, vs, e3, g, rd, rfl⟩, h2, rfl⟩, nd, out, tr, tb⟩ := h
  injection e with e1 e2
  subst e1; subst e2
  exact ⟨a, vs, e3, g, rd⟩
theorem im_false {a : Addr} : w.im false a → w.I a := fun z => z.elim id fun z => by cases z.1
theorem RD.false {d : D} {y : V} (h : RD C H (w.im false) d y) : RD C H w.I d y := RD_mono (fun a z => ⟨im_false z, rfl⟩) _ _ h

theorem Stt.forgetTail {vs : List Nat} (h : Stt C w H (t :: ρ) (v :: σ)) (c : Chg vs σ σ') : Stt C w H (t :: killL vs ρ) (v :: σ') := by
  obtain ⟨wt, eI, eB, S1, back⟩ := h.push
  have l := S1.len
  have q : Stt C w H (t :: killL vs ρ) (v :: σ) := by
    obtain ⟨F, ⟨v0, r, f1, f2, e, h1, h2, rfl⟩, nd, out, tr, tb⟩ := h
    injection e with e1 e2
    subst e1; subst e2
    have aux : ∀ (vs : List Nat) (ρ : List T) (f2 : List Addr), RTs C w H ρ σ f2 → ∃ g, RTs C w H (killL vs ρ) σ g ∧ g.Sublist f2 := by
      intro vs
      induction vs with
      | nil => exact fun ρ f2 h => ⟨f2, h, .refl _⟩
      | cons j vs ih =>
        intro ρ f2 h
        by_cases hj : j < ρ.length
        · obtain ⟨v', g1, gp, g2, hv, k1, rfl, put⟩ := h.at (List.getElem?_eq_getElem hj)
          have z := put .dead v' [] rfl
          rw [set_same hv] at z
          obtain ⟨g, z1, z2⟩ := ih _ _ z
          refine ⟨g, z1, z2.trans ?_⟩
          simp only [List.append_nil]
          exact List.Sublist.append (List.sublist_append_left _ _) (.refl _)
        · have z : ρ.set j .dead = ρ := List.set_eq_of_length_le (by omega)
          show ∃ g, RTs C w H (killL vs (ρ.set j .dead)) σ g ∧ g.Sublist f2
          rw [z]
          exact ih ρ f2 h
    obtain ⟨g, z1, z2⟩ := aux vs ρ f2 h2
    refine ⟨f1 ++ g, ⟨_, _, f1, g, rfl, h1, z1, rfl⟩, nd.sublist (List.Sublist.append (.refl _) z2), fun a ha => out a ?_, tr, tb⟩
    rcases List.mem_append.mp ha with z | z
    · exact List.mem_append_left _ z
    · exact List.mem_append_right _ (z2.subset z)
  refine q.alt (by simpa using c.1) fun i => ?_
  match i with
  | 0 => exact .inr rfl
  | i + 1 =>
    by_cases hi : i ∈ vs
    · by_cases hl : i < ρ.length
      · exact .inl (by simpa using killL_at hi hl)
      · right
        simp only [List.getElem?_cons_succ]
        rw [List.getElem?_eq_none (by have := c.1; omega), List.getElem?_eq_none (by omega)]
    · exact .inr (by simpa using c.2 i hi)
/-! comprehensions -/
structure STs (X : Cx) (ca : Cad) (W : WX) (es : List Expr) (d : DT) : Prop where
  pts : PTs X es (tT ⟨X.K, ca⟩ W d)
def dtYes : DT := fun ρ => .ok true ρ
theorem PTs.imp {X : Cx} {e : List Expr} {t t' : TT} (h : PTs X e t) (i : ∀ σ H Q, t' σ H Q → t σ H Q) : PTs X e t' := ⟨fun pins s σ H Q I q => h.run pins s σ H Q I (i σ H Q q)⟩
theorem sts_nil : STs X ca W [] dtYes := ⟨PTs.imp pts_nil fun σ H Q h => by
  obtain ⟨w, ρ, S, k⟩ := h
  exact k w H .refl S⟩
abbrev WF : WX := fun _ _ _ _ => False
def compL (dg : DG) (dt : DT) (de : DE) (own : List Nat) (b : Bool) : List D → List T → ER (List D)
  | [], ρ => .ok [] ρ
  | d :: ds, ρ => match dg (.imm b d) ρ with
    | none => .bad
    | some ρ1 => match dt ρ1 with
      | .ok true ρ2 => match de ρ2 with
        | .ok t ρ3 => match t.frz with
          | some (false, e) => match compL dg dt de own b ds (killL own ρ3) with
            | .ok r ρ4 => .ok (e :: r) ρ4
            | _ => .bad
          | _ => .bad
        | _ => .bad
      | .ok false ρ2 => compL dg dt de own b ds (killL own ρ2)
      | _ => .bad
def dLc (own : List Nat) (dg : DG) (di : DI) (dt : DT) (de : DE) : DE := fun ρ => match di ρ with
  | .ok p ρ1 => match compL dg dt de own p.1 p.2 (killL own ρ1) with
    | .ok r ρ2 => .ok (.lstI r) (killL own ρ2)
    | _ => .bad
  | .exc e ρ1 => .exc e ρ1
  | .bad => .bad
/-- what a comprehension's parts are in each block -/
structure Blk (X : Cx) (ca : Cad) (scope : Scope) (own : List (Str × Nat)) (ch : List Nat) (tg elt : Expr) (ifs : List Expr) (dg : DG) (dt : DT) (de : DE) : Prop where
  ok : BlkOk X.N X.env.scope scope own
  nd : X.N.Nodup
  g : ∀ (s : Shared) (H : Hp) (C : Addr) (cl : List (Str × Addr)) (fp : List Addr), SG (X.blk s H scope (compEnvC scope cl C X.env) fp) ca ch tg dg
  t : ∀ (s : Shared) (H : Hp) (C : Addr) (cl : List (Str × Addr)) (fp : List Addr), STs (X.blk s H scope (compEnvC scope cl C X.env) fp) ca WF ifs dt
  e : ∀ (s : Shared) (H : Hp) (C : Addr) (cl : List (Str × Addr)) (fp : List Addr), SE (X.blk s H scope (compEnvC scope cl C X.env) fp) ca WF elt de
  ch : ∀ i ∈ ch, i ∈ own.map (·.2)
theorem lcT {dg : DG} {di : DI} {dt : DT} {de : DE} {vs : List Nat} (hch : ∀ i ∈ ch, i ∈ vs) {Q : VK} (h : tE C W (dLc vs dg di dt de) σ H Q) :
    tLc (tI C W di) (tG C ch dg) (tT C WF dt) (tE C WF de) vs σ H Q := by
  obtain ⟨w, ρ, S, k⟩ := h
  refine ⟨w, ρ, S, ?_⟩
  unfold dLc at k
  cases e : di ρ with
  | bad => rw [e] at k; exact k
  | exc x ρ1 => rw [e] at k; exact k
  | ok p ρ1 =>
    simp only [e] at k
    obtain ⟨b, ds⟩ := p
    intro w1 H1 J A1 S1 wk
    have wk : Walk C w1 H1 J b ds := wk
    intro Dp hD
    have k1 : kE C W w1 H1 σ Q (match compL dg dt de vs b ds (killL vs ρ1) with | .ok r ρ2 => .ok (.lstI r) (killL vs ρ2) | _ => .bad) := kE.after A1 k
    obtain ⟨A2, S2⟩ := (S1.forget chg_wipe : Stt C w1 H1 (killL vs ρ1) (wipe σ vs)).newL (ds := []) (vs := []) rfl hD
    refine ⟨fun i m H' => m = ds.length - i ∧ i ≤ ds.length ∧ ∃ w' ρ' acc, acc.length ≤ i ∧ After w1 H1 w' H' ∧ Stt C w' H' (.lstI acc :: ρ') (some (.ref Dp) :: wipe σ vs) ∧
      kE C W w' H' σ Q (match compL dg dt de vs b (ds.drop i) ρ' with | .ok r ρ2 => .ok (.lstI (acc ++ r)) (killL vs ρ2) | _ => .bad),
      ⟨ds.length, by simp, Nat.zero_le _, w1, _, [], Nat.le_refl _, A2, S2, by simpa using kE.after A2 k1⟩, ?_⟩
    rintro i m H2 ⟨rfl, hi, w2, ρ2, acc, hacc, A3, S3, k2⟩
    by_cases hl : i < ds.length
    · refine .inr ⟨wk.go i w2 H2 hl A3, fun H' => ∃ w' ρ' acc, acc.length ≤ i + 1 ∧ After w1 H1 w' H' ∧ Stt C w' H' (.lstI acc :: ρ') (some (.ref Dp) :: wipe σ vs) ∧
        kE C W w' H' σ Q (match compL dg dt de vs b (ds.drop (i + 1)) ρ' with | .ok r ρ2 => .ok (.lstI (acc ++ r)) (killL vs ρ2) | _ => .bad), fun H' z => ⟨ds.length - (i + 1), by omega, rfl, hl, z⟩, fun x H3 y => ?_⟩
      have hd' : ds[i]? = some ds[i] := List.getElem?_eq_getElem hl
      obtain ⟨w3, A4, S4⟩ := wk.yld i _ w2 H2 _ _ x H3 hd' A3 S3 y
      obtain ⟨x', ex, rx⟩ := S4.head_imm
      cases ex
      obtain ⟨wt, eI, eB, S5, back⟩ := S4.drop.push
      have rx' : RD C H3 (wt.im b) ds[i] x := by
        have : wt.im b = w3.im b := by unfold Wd.im; rw [eI, eB]
        rw [this]; exact rx
      rw [List.drop_eq_getElem_cons hl] at k2
      unfold compL at k2
      cases eg : dg (.imm b ds[i]) ρ2 with
      | none => simp only [eg] at k2; exact k2.elim
      | some ρ3 =>
        simp only [eg] at k2
        refine ⟨wt, ρ2, _, ρ3, S5.cons_imm rx', eg, fun w6 H6 σ6 A6 S6 c6 => ⟨wipe_chg c6 hch, w6, ρ3, S6, ?_⟩⟩
        cases et : dt ρ3 with
        | bad => simp only [et] at k2; exact k2.elim
        | exc z ρ4 => simp only [et] at k2; exact k2.elim
        | ok bt ρ4 =>
          cases bt with
          | false =>
            simp only [et] at k2
            intro w7 H7 A7 S7
            rw [if_neg (by simp)]
            obtain ⟨w8, _, A8, S8⟩ := back _ _ _ _ (A6.trans A7) S7
            have c6' : Chg vs σ6 (wipe σ vs) := by
              rw [← wipe_chg c6 hch]; exact chg_wipe
            refine ⟨w8, killL vs ρ4, acc, by omega, A3.trans (A4.trans A8), ?_, kE.after (A4.trans A8) k2⟩
            exact S8.forgetTail c6'
          | true =>
            simp only [et] at k2
            intro w7 H7 A7 S7
            rw [if_pos rfl]
            refine ⟨w7, ρ4, S7, ?_⟩
            cases ee : de ρ4 with
            | bad => simp only [ee] at k2; exact k2.elim
            | exc z ρ5 => simp only [ee] at k2; exact k2.elim
            | ok t5 ρ5 =>
              simp only [ee] at k2
              intro w8 H8 y8 A8 S8
              cases ef : t5.frz with
              | none => simp only [ef] at k2; exact k2.elim
              | some q =>
                obtain ⟨bq, dq⟩ := q
                cases bq with
                | true => simp only [ef] at k2; exact k2.elim
                | false =>
                  simp only [ef] at k2
                  obtain ⟨w9, A9, S9⟩ := S8.freeze ef
                  obtain ⟨w10, e10, A10, S10⟩ := back _ _ _ _ (A6.trans (A7.trans (A8.trans A9))) S9
                  obtain ⟨p10, vs10, ep, hp, rds⟩ := S10.head_lstI
                  cases ep
                  obtain ⟨y', ey, ry⟩ := S9.head_imm
                  cases ey
                  have ry' : RD C H8 w10.I dq y8 := by rw [e10]; exact ry.false
                  obtain ⟨A11, S11⟩ := S10.drop2.wr (ds' := acc ++ [dq]) (vs' := vs10 ++ [y8]) (rds.append ⟨y8, [], rfl, ry', rfl⟩)
                  have c6' : Chg vs σ6 (wipe σ vs) := by
                    rw [← wipe_chg c6 hch]; exact chg_wipe
                  refine ⟨vs10, hp, ?_, w10, killL vs ρ5, acc ++ [dq], by simp; omega, A3.trans (A4.trans (A10.trans A11)), S11.forgetTail c6', ?_⟩
                  · rw [← rds.length]
                    have := wk.line
                    omega
                  · have k3 := kE.after (A4.trans (A10.trans A11)) k2
                    cases ec : compL dg dt de vs b (ds.drop (i + 1)) (killL vs ρ5) with
                    | bad => simp only [ec] at k3; exact k3.elim
                    | exc z ρ6 => simp only [ec] at k3; exact k3.elim
                    | ok r ρ6 =>
                      simp only [ec] at k3 ⊢
                      rw [List.append_assoc]
                      exact k3
    · have e : i = ds.length := by omega
      subst e
      refine .inl ⟨wk.stop w2 H2 A3, ?_⟩
      simp [compL] at k2
      exact k2 w2 H2 _ .refl (S3.forgetTail chg_wipe.symm)
end
end Gb

namespace Gb
open PySem PySem.Spec L2 PyProof.Rows
/-! calls where nothing is being printed: guards = some [] beside the room -/
structure RoomG (k : Nat) (A : Around) : Prop where
  r : Room k A
  g : A.guards = some []
theorem RoomG.mono {j k : Nat} {A : Around} (r : RoomG k A) (h : j ≤ k) : RoomG j A := ⟨r.r.mono h, r.g⟩
theorem RoomG.deeper {k : Nat} {A : Around} (r : RoomG (k + 1) A) (env : Env) : RoomG k (A.deeper env) := ⟨r.r.deeper env, r.g⟩
theorem RoomG.units {k : Nat} {A : Around} (r : RoomG k A) : A.units + 64 < cLine := r.r.units
structure FnG (P : Program) (w : World) (K : PySem.W.Frag) (mg : Str → Option Value) (base : Heap) (CX : CXT) (k : Nat) (f : Addr) (fd : FuncData) (ps : List Str) (sp : Sp) : Prop where
  len : ∀ vs H Q E, sp vs H Q E → vs.length = ps.length
  run : ∀ (A : Around) (outer : List Env) (s : Shared) (H : Hp) (args : Args) (us : List Value) (vs : List V) (Q : VK) (E : XK), RoomG k A → Env0 P w K mg base A outer s H → BindsTo s fd args (ps.zip us) → Vals vs us → sp vs H Q E →
    codeAny (model P w) A (.call (.ref f) args) (CR CX outer P w H s Q E) s
theorem FnG.mono {P : Program} {w : World} {K : PySem.W.Frag} {mg : Str → Option Value} {base : Heap} {CX : CXT} {j k : Nat} {f : Addr} {fd : FuncData} {ps : List Str} {sp : Sp} (F : FnG P w K mg base CX j f fd ps sp) (h : j ≤ k) :
    FnG P w K mg base CX k f fd ps sp := ⟨F.len, fun A outer s H args us vs Q E hr => F.run A outer s H args us vs Q E (hr.mono h)⟩
theorem fn_ofG {CX : CXT} {P : Program} {w : World} {K : PySem.W.Frag} {mg : Str → Option Value} {base : Heap} {k : Nat} {f : Addr} {name qual : Str} {params : Arguments} {body : List Stmt} {scope : Scope} {dV kV doc pm cdv ct oc : Value} {an od : Option Addr}
    {osl : Array (Option Value)} {N ps : List Str} {sp : Sp} (lk : K.lookup f = some ⟨oc, od, .func (PySem.W.fnOf name qual params body scope dV kV doc pm an cdv ct), osl⟩) (hcd : PySem.W.codeIn K cdv qual = true) (S : FnScope N ps scope)
    (len : ∀ vs H Q E, sp vs H Q E → vs.length = ps.length)
    (hbody : ∀ (A : Around) (outer : List Env) (s : Shared) (H : Hp) (vs : List V) (Q : VK) (E : XK), RoomG k (A.deeper (envOfC qual scope s.heap.objs.size f cdv)) → sp vs H Q E →
      ∃ t, PSs (cxOf CX P w K mg base N qual scope f cdv A outer s H E) body t ∧ t { nx := fun _ H' => Q .non H', rt := Q } (start N vs) H) :
    FnG P w K mg base CX (k + 1) f (PySem.W.fnOf name qual params body scope dV kV doc pm an cdv ct) ps sp := by
  refine ⟨len, fun A outer s H args us vs Q E hr e0 hb r hsp => ?_⟩
  have hl := len _ _ _ _ hsp
  have KX : K.In s.heap := e0.mod.kin.keeps fun b o e => (e0.bs b o e).1
  have lim : s.heap.NoLimit := e0.mod.nolimit.keeps fun b o e => (e0.bs b o e).1
  have hkind : ∀ y ∈ ps.zip us, scope.names.lookup y.1 = some .local ∨ (scope.names.lookup y.1 = some .cell ∧ ((cellsFrom (s.heap.objs.size + 1) scope.names []).lookup y.1).isSome = true) := fun ⟨n, v⟩ hy => by
    rcases S.par n (List.of_mem_zip hy).1 with q | q
    · exact .inl q
    · exact .inr ⟨q, PySem.W.cellsFrom_some _ _ _ (.inl q)⟩
  refine codeAny_call_function hr.r.depth (KX _ _ lk) rfl S.co S.gen rfl (PySem.W.codeRec_of KX hcd) (hb _ _ _ _ ?_)
  refine wpAny_newFunctionEnv_cells S.kind hkind fun env he s1 x => ?_
  subst he
  refine ⟨lim.keeps x.toInCall.keep, codeAny_func ?_⟩
  obtain ⟨t, ht, hq⟩ := hbody A outer s H vs Q E (hr.deeper _) hsp
  have I : Inv (cxOf CX P w K mg base N qual scope f cdv A outer s H E) [] (start N vs) H s1 := inv_start S hr.r.hd e0 hl r x
  refine wpAny_mono (ht.run [] s1 (start N vs) H _ I hq) (fun fl s' hs => ?_) fun e s' hs => hs
  have fin : ∀ {σ' : L2.St} {H' : Hp} {v : V} {u : Value}, Inv (cxOf CX P w K mg base N qual scope f cdv A outer s H E) [] σ' H' s' → RelV v u → Q v H' → CE outer P w H s Q u s' :=
    fun {σ' H' v u} J rv q => ⟨v, H', J.os, J.bare, J.base, J.hok, rv, q⟩
  cases fl with
  | ret u =>
    obtain ⟨v, σ', H', J, rv, q⟩ := hs
    exact fin J rv q
  | next =>
    obtain ⟨σ', H', J, q⟩ := hs
    exact fin (v := V.non) (u := Value.none) J rfl q
  | brk =>
    obtain ⟨_, _, _, q⟩ := hs
    exact False.elim q
  | cont =>
    obtain ⟨_, _, _, q⟩ := hs
    exact False.elim q
section
variable {X : Cx} {CX : CXT} {k : Nat} {f : Addr} {fd : FuncData} {ps : List Str} {sp : Sp} {dvs : List V} {ds : List Value} {E : L2.St → XK} {x : Str} {p pos : Pos} {e : Expr} {es : List Expr} {t : TA}
theorem run_fnSDG {pins : List (Addr × Obj)} {σ : L2.St} {H : Hp} {s : Shared} {Q : VK} {us : List Value} {vs : List V} (F : FnG X.prog X.w X.K X.mg X.base CX k f fd ps sp) (hr : RoomG k X.A) (hb : Binds X.K fd ps ds) (hd : Vals dvs ds) (hx : PassesAt CX X σ (E σ))
    (I : Inv X pins σ H s) (r : Vals vs us) (h : sp (vs ++ dvs) H Q (E σ)) : wpAny (model X.prog X.w) X.A (call (.ref f) us) (EP X pins σ Q) X.xe s := by
  have r2 : Vals (vs ++ dvs) (us ++ ds) := r.append hd
  have hl : (us ++ ds).length = ps.length := by rw [← r2.length]; exact F.len _ _ _ _ h
  refine wpAny_call (codeAny_mono (F.run X.A X.stack s H ⟨us, []⟩ (us ++ ds) (vs ++ dvs) Q (E σ) hr I.env0 (hb s us I.kIn hl) r2 h) fun r s' hq => ?_)
  cases r with
  | error e => exact hx pins H s e s' I hq
  | ok fl =>
    cases fl with
    | ret u => exact I.after hq
    | next => exact False.elim hq
    | brk => exact False.elim hq
    | cont => exact False.elim hq
theorem pe_callSDG (F : FnG X.prog X.w X.K X.mg X.base CX k f fd ps sp) (hr : RoomG k X.A) (hg : Gl X x) (hm : X.mg x = some (.ref f)) (hk : PySem.W.keepIn X.K (.ref f) = true) (hb : Binds X.K fd ps ds) (hd : Vals dvs ds) (hx : ∀ σ, PassesAt CX X σ (E σ))
    (ha : PA X (e :: es) t) (hdb : (x == ("__debug__" : Str)) = false := by decide) (he : starEach (e :: es) X.env = (false, eval e X.env) :: starEach es X.env := by rfl) (hpl : (backTo pos (starEach es X.env)).any (·.1) = false := by rfl) :
    PE X (.Call (.Name x p) (e :: es) [] pos) (tCallSD sp dvs E t) := by
  refine ⟨fun pins s σ H Q I h => ?_⟩
  refine wpAny_Call_Name_kw (ld_glob I hg hm ?_ hdb)
  refine PySem.W.callWith_K (h₀ := X.base) I.ok.mod.kin hk (thn (ha.run pos pins s σ H _ I h) fun us s1 ⟨vs, H1, I1, r, q⟩ => ⟨I1.kIn, ?_⟩) he hpl
  exact run_fnSDG F hr hb hd (hx σ) I1 r q
end
theorem law_callG {P : Program} {w : World} {K : PySem.W.Frag} {mg mb : Str → Option Value} {CX : CXT} {k : Nat} {fa a : Addr} {fd : FuncData} {x : Str} {sp : Sp} {s₁ : Shared} {vs : List Value} {ns : List Int}
    (KX : K.In s₁.heap) (hns : s₁.heap.Ns mainGlobals mg) (hb : s₁.heap.Ns builtinsNs mb) (hbb : ∀ x : Str, x ≠ "__name__" → mb x = bootBuiltins x) (hlim : s₁.heap.NoLimit) (hg : s₁.gens = #[])
    (ha : s₁.heap.get? a = some { cls := .type "list", data := .seq vs.toArray }) (hi : IntsAre vs ns) (hl : ns.length ≤ sizeLine) (hr : RoomG k callerA)
    (F : ∀ base : Heap, K.In base → base.Ns mainGlobals mg → FnG P w K mg base CX k fa fd [x] sp) (hbind : ∀ (s : Shared) (u : Value), BindsTo s fd ⟨[u], []⟩ [(x, u)])
    (hsp : ∀ H : Hp, Only H → SqL K H a (ns.map V.int) → sp [.ref a] H (fun v _ => v = .bl true) fun _ _ _ => False)
    (hCX : ∀ H e s', CX [] H s₁ (fun _ _ _ => False) e s' → False) :
    codeAny (model P w) callerA (.call (.ref fa) ⟨[.ref a], []⟩) (fun r s' => r = .ok (.ret (.bool true)) ∧ OldK s₁.heap s'.heap ∧ s'.os = s₁.os ∧ AllBare s'.gens) s₁ := by
  have rv := vals_ints hi
  have lenV := hi.length
  -- from an abstract heap in which nothing but the script may be tracked
  have core : ∀ H : Hp, Only H → SqL K H a (ns.map V.int) → HOk P w H s₁.heap → (∀ b, H b ≠ none → b = a) → (H a ≠ none → K.lookup a = none) →
      codeAny (model P w) callerA (.call (.ref fa) ⟨[.ref a], []⟩) (fun r s' => r = .ok (.ret (.bool true)) ∧ OldK s₁.heap s'.heap ∧ s'.os = s₁.os ∧ AllBare s'.gens) s₁ := by
    intro H hO hS hok hA hK
    have base_of : ∀ {b : Addr} {o : Obj}, s₁.heap.get? b = some o → H b = none → (hidT s₁.heap H).get? b = some o := fun e n => hidT_get e n
    have noA : ∀ {b : Addr} {o : Obj} {es : Array DictEntry} {ep : Nat}, s₁.heap.get? b = some o → o.data = .dict es ep → H b = none := fun {b o es ep} e d => by
      cases q : H b with
      | none => rfl
      | some u =>
        have e' : b = a := hA b (by rw [q]; simp)
        subst e'
        rw [ha] at e; cases e
        have d' : Data.seq vs.toArray _ = Data.dict es ep := d
        cases d'
    have nsK : ∀ {b : Addr} {m : Str → Option Value}, s₁.heap.Ns b m → (hidT s₁.heap H).Ns b m := fun {b m} ⟨o, es, ep, e, d, r⟩ => ⟨o, es, ep, base_of e (noA e d), d, r⟩
    have hKb : K.In (hidT s₁.heap H) := fun b o e => base_of (KX b o e) (by
      cases q : H b with
      | none => rfl
      | some u =>
        have e' : b = a := hA b (by rw [q]; simp)
        subst e'
        rw [hK (by rw [q]; simp)] at e; cases e)
    have hM : Mod K mg (hidT s₁.heap H) := ⟨hKb, nsK hns, ⟨mb, nsK hb, hbb⟩, let ⟨mc, h1, h2⟩ := hlim; ⟨mc, nsK h1, h2⟩⟩
    have e0 : Env0 P w K mg (hidT s₁.heap H) callerA [] s₁ H := ⟨rfl, hM, fun b o e => of_hidT e, Nat.le_of_eq (hidT_size _ _), trivial, fun b hb => absurd (show b ∈ ([] : List Addr) from hb) (by simp), hok, .of_eq hg⟩
    refine codeAny_mono ((F _ hKb (nsK hns)).run callerA [] s₁ H ⟨[.ref a], []⟩ [.ref a] [.ref a] _ _ hr e0 (hbind s₁ (.ref a)) (.cons rfl .nil) (hsp H hO hS)) fun r s' h => ?_
    cases r with
    | error e => exact (hCX H e s' h).elim
    | ok fl =>
      cases fl with
      | next => exact False.elim h
      | brk => exact False.elim h
      | cont => exact False.elim h
      | ret u =>
        obtain ⟨v, H', os, bare, un, hok', r', q⟩ := h
        have q' : v = .bl true := q
        subst q'
        obtain rfl : u = Value.bool true := r'
        refine ⟨rfl, OldK.of_keep fun b o e => ?_, os, bare⟩
        cases q : H b with
        | none => exact un.keep b o e q (by intro z; exact absurd (show b ∈ ([] : List Addr) from z) (by simp)) (by simp)
        | some u =>
          rcases hO b with z | ⟨ob, xs, z⟩
          · rw [q] at z; cases z
          · have z2 := un.frzs b ob _ z
            obtain ⟨e1, _⟩ := hok b _ z
            obtain ⟨e2, _⟩ := hok' b _ z2
            rw [e] at e1; cases e1
            exact e2
  cases hk : K.lookup a with
  | some o =>
    -- the script is one of the module's own objects
    have e := KX a o hk
    rw [ha] at e
    cases e
    refine core (fun _ => none) (fun _ => .inl rfl) (.inr ⟨_, vs.toArray, _, hk, rfl, rfl, rfl, by rw [List.size_toArray, lenV]; exact hl, by simpa using rv⟩) (fun b u z => by have z' : (none : Option HO) = some u := z; cases z') (fun b z => absurd rfl z) fun z => absurd rfl z
  | none =>
    refine core (fun b => if b = a then some (.frz { cls := .type "list", data := .seq vs.toArray } (.lst (ns.map V.int))) else none) (fun b => ?_) (.inl (.inr ⟨{ cls := .type "list", data := .seq vs.toArray }, if_pos rfl⟩)) (fun b u z => ?_) (fun b z => ?_) fun _ => hk
    · by_cases hb : b = a
      · exact .inr ⟨_, _, if_pos hb⟩
      · exact .inl (if_neg hb)
    · by_cases hb : b = a
      · have z' := (if_pos hb).symm.trans z
        cases z'
        subst hb
        exact ⟨ha, by rw [List.length_map]; exact hl, vs, _, rv, ha⟩
      · have z' := (if_neg hb).symm.trans z
        cases z'
    · by_cases hb : b = a
      · exact hb
      · exact absurd (if_neg hb) z
theorem walk_ofG {l : PySem.W.OpenLaw} {n k : Nat} {q : Program} {loose : List Str} {XP : (Str → Option Value) → Heap → Prop} {YP : World → Heap → Prop} {d : DefRec} {K : Params → PySem.W.Frag} {CX : World → CXT} {sp : World → Sp} {x : Str}
    (hn : l.most = some n) (hn2 : n ≤ sizeLine) (hdf : d.params.defaults = []) (hr : RoomG k callerA)
    (hY : ∀ (w : World) (h : Heap), YP w h → (K w.params).In h)
    (F : ∀ (w : World) (mg : Str → Option Value) (fa : Addr) (h : Heap), (K w.params).In h → h.Ns mainGlobals mg → mg d.name = some (.ref fa) →
      ∃ fd : FuncData, (∀ (s : Shared) (u : Value), BindsTo s fd ⟨[u], []⟩ [(x, u)]) ∧
        ∀ base : Heap, (K w.params).In base → base.Ns mainGlobals mg → FnG l.prog w (K w.params) mg base (CX w) k fa fd [x] (sp w))
    (hsp : ∀ (w : World) (H : Hp) (a : Addr) (ns : List Int), ns.length ≤ n → Only H → SqL (K w.params) H a (ns.map V.int) → sp w [.ref a] H (fun v _ => v = .bl true) fun _ _ _ => False)
    (hCX : ∀ (w : World) (H : Hp) (s : Shared) (e : Value) (s' : Shared), CX w [] H s (fun _ _ _ => False) e s' → False) :
    PySem.W.WalkO q loose XP YP l.row.toRowW d [] (fun f vs => PySem.call f vs) := by
  refine Att.attach_call hn hdf fun w s₀ s₁ mg mb fa o pm cd doc a vs ns G Y ho hd hcd hmg hobj hints hlen hg => ?_
  have KX := hY w _ Y
  obtain ⟨fd, hb, hF⟩ := F w mg fa _ KX G.T.g hmg
  exact law_callG KX G.T.g G.T.b G.T.builtins G.T.nolimit hg hobj hints (Nat.le_trans hlen hn2) hr hF hb (fun H hO hS => hsp w H a ns hlen hO hS) fun H e s' => hCX w H s₁ e s'
end Gb

namespace Gb
open PySem PySem.Spec L2
open PyProof.Rows (envOfC)
section
variable {C : Ct} {W : WX} {pn ch : List Nat} {w w' : Wd} {H H' : Hp} {σ σ' : L2.St} {En : Ends} {X : Cx} {ca : Cad} {ρ : List T} {t u : T} {v x : Option V}
/-- what stands behind is laid aside -/
theorem Stt.pushT {ts : List T} {vs : L2.St} (h : Stt C w H (ts ++ ρ) (vs ++ σ)) (l : vs.length = ts.length) : ∃ wt : Wd, wt.I = w.I ∧ wt.B = w.B ∧ Stt C wt H ts vs ∧
    ∀ (w' : Wd) (H' : Hp) (ts' : List T) (vs' : L2.St), After wt H w' H' → Stt C w' H' ts' vs' → ∃ w'', w''.I = w'.I ∧ After w H w'' H' ∧ Stt C w'' H' (ts' ++ ρ) (vs' ++ σ) := by
  obtain ⟨F, rt, nd, out, tr, tb⟩ := h
  obtain ⟨v1, v2, f1, f2, ev, rfl, h1, h2⟩ := rt.split
  have l1 := h1.length
  obtain ⟨rfl, rfl⟩ := List.append_inj ev (by omega)
  have nd2 := List.nodup_append.mp nd
  refine ⟨⟨w.I, w.B, fun a => w.R a ∨ a ∈ f2⟩, rfl, rfl, ⟨f1, ?_, nd2.1, fun a ha => ?_, fun a ha => ?_, tb⟩, fun w' H' ts' vs' A S => ?_⟩
  · exact RTs_mono (w := w) (w' := ⟨w.I, w.B, fun a => w.R a ∨ a ∈ f2⟩) (H := H) (fun a z => ⟨z, rfl⟩) (fun a z => ⟨z, rfl⟩) _ _ _ (fun _ _ => rfl) h1
  · have q := out a (List.mem_append_left _ ha)
    exact ⟨q.1, q.2.1, fun z => z.elim q.2.2 fun z => nd2.2.2 a ha a z rfl⟩
  · rcases ha with z | z | z | z
    · exact tr a (.inl z)
    · exact tr a (.inr (.inl z))
    · exact tr a (.inr (.inr z))
    · obtain ⟨o, ho⟩ := RTs_some _ _ _ h2 a z
      rw [ho]; simp
  · obtain ⟨F', rt', nd', out', tr', tb'⟩ := S
    have hB : w'.B = w.B := A.B
    have hR : w'.R = fun a => w.R a ∨ a ∈ f2 := A.R
    refine ⟨⟨w'.I, w'.B, w.R⟩, rfl, ⟨A.I, hB, rfl, fun a z => ?_, fun a z => ?_⟩, F' ++ f2, RTs.append ?_ ?_, ?_, fun a ha => ?_, fun a z => ?_, tb'⟩
    · rcases A.new a z with z | ⟨z1, z2⟩
      · exact .inl z
      · exact .inr ⟨z1, fun q => z2 (.inl q)⟩
    · refine A.keep a ?_
      rcases z with z | z | z
      · exact .inl z
      · exact .inr (.inl z)
      · exact .inr (.inr (.inl z))
    · exact RTs_mono (w := w') (w' := ⟨w'.I, w'.B, w.R⟩) (H := H') (fun a z => ⟨z, rfl⟩) (fun a z => ⟨z, rfl⟩) _ _ _ (fun _ _ => rfl) rt'
    · refine RTs_mono (w := w) (w' := ⟨w'.I, w'.B, w.R⟩) (H := H) (fun a z => ⟨A.I a z, A.keep a (.inl z)⟩) (fun a z => ⟨by show w'.B a; rw [hB]; exact z, A.keep a (.inr (.inl z))⟩) _ _ _ (fun a z => A.keep a (.inr (.inr (.inr z)))) h2
    · refine List.nodup_append.mpr ⟨nd', nd2.2.1, fun a ha b hb e => ?_⟩
      subst e
      refine (out' a ha).2.2 ?_
      rw [hR]; exact .inr hb
    · rcases List.mem_append.mp ha with ha | ha
      · have q := out' a ha
        refine ⟨q.1, q.2.1, fun z => q.2.2 ?_⟩
        rw [hR]; exact .inl z
      · have q := out a (List.mem_append_right _ ha)
        refine ⟨fun z => ?_, by show ¬ w'.B a; rw [hB]; exact q.2.1, q.2.2⟩
        rcases A.new a z with z | ⟨_, z⟩
        · exact q.1 z
        · exact z (.inr ha)
    · refine tr' a ?_
      rcases z with z | z | z
      · exact .inl z
      · exact .inr (.inl z)
      · exact .inr (.inr (by rw [hR]; exact .inl z))
theorem Stt.head (h : Stt C w H (t :: ρ) (v :: σ)) : Stt C w H [t] [v] := by
  obtain ⟨F, ⟨v0, r, f1, f2, e, h1, h2, rfl⟩, nd, out, tr, tb⟩ := h
  injection e with e1 e2
  subst e1; subst e2
  exact ⟨f1, ⟨v, [], f1, [], rfl, h1, ⟨rfl, rfl⟩, by simp⟩, (List.nodup_append.mp nd).1, fun a ha => out a (List.mem_append_left _ ha), tr, tb⟩
theorem Stt.nil (h : Stt C w H ρ σ) : Stt C w H [] [] := by
  obtain ⟨F, _, nd, out, tr, tb⟩ := h
  exact ⟨[], ⟨rfl, rfl⟩, by simp, fun a ha => by simp at ha, tr, tb⟩

/-! functions -/
inductive FR where
  | ok (t : T) | okm (t : T) (outs : List T) | exc (e : Ex) | excm (e : Ex) (outs : List T) | bad
abbrev FnT := List T → FR
def kF (C : Ct) (w : Wd) (H : Hp) (vs : List V) (Q : VK) (E : XK) : FR → Prop
  | .ok t => ∀ w' H' v, After w H w' H' → Stt C w' H' [t] [some v] → Q v H'
  | .okm t outs => ∀ w' H' v, After w H w' H' → Stt C w' H' (t :: outs) (some v :: vs.map some) → Q v H'
  | .exc e => ∀ w' H' cls dx, After w H w' H' → Stt C w' H' [] [] → ExAt C w'.I H' e cls dx → E cls dx H'
  | .excm e outs => ∀ w' H' cls dx, After w H w' H' → Stt C w' H' outs (vs.map some) → ExAt C w'.I H' e cls dx → E cls dx H'
  | .bad => False
def spF (C : Ct) (Fn : FnT) : Sp := fun vs H Q E => ∃ w ts, Stt C w H ts (vs.map some) ∧ kF C w H vs Q E (Fn ts)
/-- a def whose arguments are not changed -/
def fin : SR → FR
  | .next _ => .ok (.imm false .non)
  | .ret t _ => .ok t
  | .exc e _ => .exc e
  | .brk _ => .bad
  | .cont _ => .bad
  | .bad => .bad
def mkFn (N n : Nat) (body : DS) : FnT := fun ts => if ts.length = n then fin (body (ts ++ List.replicate (N - n) .dead)) else .bad
theorem Stt.dead_append : ∀ (k : Nat), Stt C w H ρ σ → Stt C w H (ρ ++ List.replicate k .dead) (σ ++ List.replicate k none) := fun k h => by
  obtain ⟨F, rt, nd, out, tr, tb⟩ := h
  have aux : ∀ k, RTs C w H (List.replicate k .dead) (List.replicate k none) [] := by
    intro k
    induction k with
    | zero => exact ⟨rfl, rfl⟩
    | succ k ih => exact ⟨none, List.replicate k none, [], [], rfl, rfl, ih, rfl⟩
  exact ⟨F ++ [], RTs.append rt (aux k), by simpa using nd, fun a ha => out a (by simpa using ha), tr, tb⟩
theorem start_len {N : List Str} {vs : List V} {n : Nat} (l : vs.length = n) : L2.start N vs = vs.map some ++ List.replicate (N.length - n) none := by
  unfold L2.start; rw [l]
variable {P : Program} {wd : World} {K : PySem.W.Frag} {mg : Str → Option Value} {base : Heap}
theorem fn_body {N ps : List Str} {body : DS} {vs : List V} {H : Hp} {Q : VK} {E : XK} (h : spF C (mkFn N.length ps.length body) vs H Q E) :
    tS C (fun cls d _ H => E cls d H) [] body { nx := fun _ H' => Q .non H', rt := Q } (L2.start N vs) H := by
  obtain ⟨w, ts, S, k⟩ := h
  unfold mkFn at k
  by_cases lt : ts.length = ps.length
  case neg => rw [if_neg lt] at k; exact k.elim
  rw [if_pos lt] at k
  have l : vs.length = ps.length := by
    have := S.len
    rw [List.length_map] at this
    omega
  refine ⟨w, ts ++ List.replicate (N.length - ps.length) .dead, ?_, ?_⟩
  · rw [start_len l]
    exact S.dead_append _
  · cases e : body (ts ++ List.replicate (N.length - ps.length) T.dead) with
    | next ρ' =>
      simp only [e, fin] at k
      exact fun w1 H1 σ1 A1 S1 _ => k w1 H1 .non A1 (S1.nil.cons_imm rfl)
    | ret t ρ' =>
      simp only [e, fin] at k
      exact fun w1 H1 σ1 v A1 S1 _ => k w1 H1 v A1 S1.head
    | exc x ρ' =>
      simp only [e, fin] at k
      exact fun w1 H1 σ1 cls dx A1 S1 _ x1 => k w1 H1 cls dx A1 S1.nil x1
    | brk _ => simp only [e, fin] at k; exact k.elim
    | cont _ => simp only [e, fin] at k; exact k.elim
    | bad => simp only [e, fin] at k; exact k.elim
theorem spF_len {n N : Nat} {body : DS} {vs : List V} {H : Hp} {Q : VK} {E : XK} (h : spF C (mkFn N n body) vs H Q E) : vs.length = n := by
  obtain ⟨w, ts, S, k⟩ := h
  unfold mkFn at k
  by_cases lt : ts.length = n
  · have := S.len
    rw [List.length_map] at this
    omega
  · rw [if_neg lt] at k; exact k.elim
/-- a def keeps its denotation -/
theorem fn_ok {ca : Cad} {x qual : Str} {st : Stmt} {f : Addr} {fd : FuncData} {N ps : List Str} {k : Nat} {body : DS} (F : Fun K x qual st f fd) (S : FnScope N ps (defScope st))
    (hb : ∀ (cdv : Value) (A : Around) (outer : List Env) (s : Shared) (H : Hp) (E : XK), RoomG k (A.deeper (envOfC qual (defScope st) s.heap.objs.size f cdv)) →
      SB (cxOf (L2.CX P wd) P wd K mg base N qual (defScope st) f cdv A outer s H E) ca (fun cls d _ H => E cls d H) [] (defBody st) body) : FnG P wd K mg base (L2.CX P wd) (k + 1) f fd ps (spF ⟨K, ca⟩ (mkFn N.length ps.length body)) :=
  by
    obtain ⟨oc, od, kV, doc, pm, an, cdv, ct, osl, rfl, lk, hcd⟩ := F.ex
    exact fn_ofG lk hcd S (fun vs H Q E h => spF_len h) fun A outer s H vs Q E hr h => ⟨_, (hb cdv A outer s H E hr).pss, fn_body h⟩

/-! calls -/
structure Cal (P : Program) (wd : World) (K : PySem.W.Frag) (mg : Str → Option Value) (base : Heap) (ca : Cad) (k : Nat) (x : Str) (ds : List D) (Fn : FnT) : Prop where
  ex : ∃ (f : Addr) (fd : FuncData) (ps : List Str) (dvs : List V) (us : List Value), FnG P wd K mg base (L2.CX P wd) k f fd ps (spF ⟨K, ca⟩ Fn) ∧ mg x = some (.ref f) ∧ PySem.W.keepIn K (.ref f) = true ∧ Binds K fd ps us ∧ Vals dvs us ∧
    ∀ (H : Hp) (A : Addr → Prop), RDs ⟨K, ca⟩ H A ds dvs
def afterCall (ρ : List T) : FR → ER T
  | .ok t => .ok t ρ
  | .okm t _ => .ok t ρ
  | .exc e => .exc e ρ
  | .excm e _ => .exc e ρ
  | .bad => .bad
def dCall (Fn : FnT) (ds : List D) (da : DA) : DE := fun ρ => (da ρ).bind fun ts ρ1 => afterCall ρ1 (Fn (ts ++ ds.map (T.imm false)))
theorem exA {da : DA} {g : List T → List T → ER T} {Q : VK} {R' : List V → Hp → Prop} (h : tE C W (fun ρ => (da ρ).bind g) σ H Q) (hr : ∀ w H ts ρ vs, vs.length = ts.length → Stt C w H (ts ++ ρ) (vs.map some ++ σ) → kE C W w H σ Q (g ts ρ) → R' vs H) : tA C W da σ H R' := by
  obtain ⟨w, ρ, S, k⟩ := h
  refine ⟨w, ρ, S, ?_⟩
  cases e : da ρ with
  | bad => simp only [e] at k; exact k
  | exc x ρ1 => simp only [e] at k; exact k
  | ok t ρ1 =>
    simp only [e, fin] at k
    exact fun w1 H1 v l A1 S1 => hr w1 H1 t ρ1 v l S1 (kE.after A1 k)
theorem Stt.append_imms : ∀ {ds : List D} {xs : List V} {ts : List T} {vs : L2.St}, Stt C w H ts vs → RDs C H (w.im false) ds xs → Stt C w H (ts ++ ds.map (T.imm false)) (vs ++ xs.map some) := fun {ds xs ts vs} h r => by
  obtain ⟨F, rt, nd, out, tr, tb⟩ := h
  have aux : ∀ (ds : List D) (xs : List V), RDs C H (w.im false) ds xs → RTs C w H (ds.map (T.imm false)) (xs.map some) [] := by
    intro ds
    induction ds with
    | nil =>
      intro xs r
      have e : xs = [] := r
      subst e
      exact ⟨rfl, rfl⟩
    | cons d ds ih =>
      intro xs r
      obtain ⟨y, ys, rfl, h1, h2⟩ := r
      exact ⟨some y, ys.map some, [], [], rfl, ⟨y, rfl, h1, rfl⟩, ih ys h2, rfl⟩
  exact ⟨F ++ [], RTs.append rt (aux ds xs r), by simpa using nd, fun a ha => out a (by simpa using ha), tr, tb⟩
/-- the callee's reading from the caller's -/
theorem callT {Fn : FnT} {ds : List D} {dvs : List V} {vs : List V} {ts : List T} {Q : VK} (l : vs.length = ts.length) (S : Stt C w H (ts ++ ρ) (vs.map some ++ σ)) (hd : ∀ (H : Hp) (A : Addr → Prop), RDs C H A ds dvs)
    (k : kE C W w H σ Q (afterCall ρ (Fn (ts ++ ds.map (T.imm false))))) : spF C Fn (vs ++ dvs) H Q (fun cls dx H' => W cls dx σ H') := by
  obtain ⟨wt, eI, eB, S1, back⟩ := S.pushT (by simpa using l)
  refine ⟨wt, _, by rw [List.map_append]; exact S1.append_imms (hd _ _), ?_⟩
  cases e : Fn (ts ++ ds.map (T.imm false)) with
  | bad => rw [e] at k; exact k
  | ok t =>
    rw [e] at k
    intro w2 H2 v A2 S2
    obtain ⟨w3, e3, A3, S3⟩ := back _ _ _ _ A2 S2
    exact k w3 H2 v A3 S3
  | okm t outs =>
    rw [e] at k
    intro w2 H2 v A2 S2
    obtain ⟨w3, e3, A3, S3⟩ := back _ _ _ _ A2 S2.head
    exact k w3 H2 v A3 S3
  | exc x =>
    rw [e] at k
    intro w2 H2 cls dx A2 S2 x2
    obtain ⟨w3, e3, A3, S3⟩ := back _ _ _ _ A2 S2
    exact k w3 H2 cls dx A3 S3 (x2.I e3)
  | excm x outs =>
    rw [e] at k
    intro w2 H2 cls dx A2 S2 x2
    obtain ⟨w3, e3, A3, S3⟩ := back _ _ _ _ A2 S2.nil
    exact k w3 H2 cls dx A3 S3 (x2.I e3)
theorem se_call {k : Nat} {x : Str} {ds : List D} {Fn : FnT} {e : Expr} {es : List Expr} {da : DA} {p pos : Pos} (c : Cal X.prog X.w X.K X.mg X.base ca k x ds Fn) (hr : RoomG k X.A) (tk : Takes X W) (ha : SA X ca W (e :: es) da) (hg : Gl X x := by rfl)
    (hdb : (x == ("__debug__" : Str)) = false := by decide) (he : starEach (e :: es) X.env = (false, eval e X.env) :: starEach es X.env := by rfl) (hpl : (backTo pos (starEach es X.env)).any (·.1) = false := by rfl) :
    SE X ca W (.Call (.Name x p) (e :: es) [] pos) (dCall Fn ds da) := by
  obtain ⟨f, fd, ps, dvs, us, F, hm, hk, hb, hd, rd⟩ := c.ex
  exact ⟨PE.imp (pe_callSDG F hr hg hm hk hb hd (fun σ => passAt tk σ) ha.pa hdb he hpl) fun σ H Q q => exA q fun w H ts ρ vs l S kk => callT l S rd kk⟩
end
end Gb

namespace Gb
open PySem PySem.Spec L2

/-! names and constants -/
def dVar (i : Nat) : DE := fun ρ => match ρ[i]? with
  | some t => match t.frz with
    | some (b, d) => .ok (.imm b d) (ρ.set i (.imm b d))
    | none => .bad
  | none => .bad
def dMove (i : Nat) : DE := fun ρ => match ρ[i]? with
  | some .dead => .bad
  | some t => .ok t (ρ.set i .dead)
  | none => .bad
def dC (d : D) : DE := fun ρ => .ok (.imm false d) ρ
def dFr (de : DE) : DE := fun ρ => (de ρ).bind fun t ρ' => match t.frz with
  | some (b, d) => .ok (.imm b d) ρ'
  | none => .bad
section
variable {C : Ct} {W : WX} {pn ch : List Nat} {w w' : Wd} {H H' : Hp} {σ σ' : L2.St} {En : Ends} {X : Cx} {ca : Cad} {ρ : List T} {t u : T} {v x : Option V}
theorem RT_live : ∀ {t : T} {v : Option V} {fp : List Addr}, RT C w H t v fp → t ≠ .dead → ∃ y, v = some y
  | .dead, _, _, _, n => absurd rfl n
  | .imm _ _, _, _, ⟨x, e, _⟩, _ => ⟨x, e⟩
  | .lstI _, _, _, ⟨_, _, e, _⟩, _ => ⟨_, e⟩
  | .lst _, _, _, ⟨_, _, _, e, _⟩, _ => ⟨_, e⟩
  | .dicI _ _, _, _, ⟨_, _, e, _⟩, _ => ⟨_, e⟩
  | .dic _ _, _, _, ⟨_, _, e, _⟩, _ => ⟨_, e⟩
  | .obj _ _ _, _, _, ⟨_, _, _, _, e, _⟩, _ => ⟨_, e⟩
theorem Stt.live (h : Stt C w H (t :: ρ) (v :: σ)) (n : t ≠ .dead) : ∃ y, v = some y := by
  obtain ⟨F, ⟨v0, r, f1, f2, e, h1, h2, rfl⟩, nd, out, tr, tb⟩ := h
  injection e with e1 e2
  subst e1; subst e2
  exact RT_live h1 n
theorem se_var (i : Nat) {x : Str} {pos : Pos} (hN : X.N[i]? = some x := by rfl) (hv : Vis X.env.scope x := by first | exact Or.inl rfl | exact Or.inr (Or.inl rfl) | exact Or.inr (Or.inr rfl)) (hd : (x == ("__debug__" : Str)) = false := by decide)
    (hcd : (x == ("__classdict__" : Str)) = false := by decide) : SE X ca W (.Name x pos) (dVar i) := ⟨PE.imp (pe_var hN hv hd hcd) fun σ H Q h => by
  obtain ⟨w, ρ, S, k⟩ := h
  unfold dVar at k
  cases e : ρ[i]? with
  | none => simp only [e] at k; exact k.elim
  | some t =>
    simp only [e] at k
    cases ef : t.frz with
    | none => simp only [ef] at k; exact k.elim
    | some p =>
      obtain ⟨b, d⟩ := p
      simp only [ef] at k
      obtain ⟨w', x, hx, A, S'⟩ := S.share e ef
      exact ⟨x, hx, k w' H x A S'⟩⟩
theorem se_move (i : Nat) {x : Str} {pos : Pos} (hN : X.N[i]? = some x := by rfl) (hv : Vis X.env.scope x := by first | exact Or.inl rfl | exact Or.inr (Or.inl rfl) | exact Or.inr (Or.inr rfl)) (hd : (x == ("__debug__" : Str)) = false := by decide)
    (hcd : (x == ("__classdict__" : Str)) = false := by decide) : SE X ca W (.Name x pos) (dMove i) := ⟨PE.imp (pe_var hN hv hd hcd) fun σ H Q h => by
  obtain ⟨w, ρ, S, k⟩ := h
  unfold dMove at k
  cases e : ρ[i]? with
  | none => simp only [e] at k; exact k.elim
  | some t =>
    obtain ⟨v, hv', S'⟩ := S.move e
    have fin : t ≠ .dead → kE ⟨X.K, ca⟩ W w H σ Q (.ok t (ρ.set i .dead)) → tVar i σ H Q := fun n k => by
      obtain ⟨y, rfl⟩ := S'.live n
      exact ⟨y, hv', k w H y .refl S'⟩
    cases t with
    | dead => simp only [e] at k; exact k.elim
    | imm b d => simp only [e] at k; exact fin (by simp) k
    | lstI ds => simp only [e] at k; exact fin (by simp) k
    | lst ts => simp only [e] at k; exact fin (by simp) k
    | dicI ks ds => simp only [e] at k; exact fin (by simp) k
    | dic ks ts => simp only [e] at k; exact fin (by simp) k
    | obj c ns ts => simp only [e] at k; exact fin (by simp) k⟩
theorem constE {d : D} {y : V} {Q : VK} (h : tE C W (dC d) σ H Q) (r : ∀ (H : Hp) (A : Addr → Prop), RD C H A d y) : Q y H := by
  obtain ⟨w, ρ, S, k⟩ := h
  exact k w H y .refl (S.cons_imm (r _ _))
theorem se_int {i : Int} {j : Nat} {pos : Pos} : SE X ca W (.Constant (.int i) j pos) (dC (.int i)) := ⟨PE.imp pe_int fun σ H Q h => constE h fun _ _ => rfl⟩
theorem se_bl {b : Bool} {j : Nat} {pos : Pos} : SE X ca W (.Constant (.bool b) j pos) (dC (.bl b)) := ⟨PE.imp pe_bl fun σ H Q h => constE h fun _ _ => rfl⟩
theorem se_non {j : Nat} {pos : Pos} : SE X ca W (.Constant .none j pos) (dC .non) := ⟨PE.imp pe_non fun σ H Q h => constE h fun _ _ => rfl⟩
theorem se_str {s : Str} {j : Nat} {pos : Pos} : SE X ca W (.Constant (.str s) j pos) (dC (.str s)) := ⟨PE.imp pe_str fun σ H Q h => constE h fun _ _ => rfl⟩
theorem se_gint {x : Str} {i : Int} {t : Tok} {pos : Pos} (hm : X.mg x = some (.int i t)) (hg : Gl X x := by rfl) (hd : (x == ("__debug__" : Str)) = false := by decide) : SE X ca W (.Name x pos) (dC (.int i)) := ⟨PE.imp (pe_glob (v := .int i) hg hm ⟨t, rfl⟩ hd) fun σ H Q h => constE h fun _ _ => rfl⟩
theorem se_gstr {x : Str} {s : Str} {t : Tok} {pos : Pos} (hm : X.mg x = some (.str s t)) (hg : Gl X x := by rfl) (hd : (x == ("__debug__" : Str)) = false := by decide) : SE X ca W (.Name x pos) (dC (.str s)) := ⟨PE.imp (pe_glob (v := .str s) hg hm ⟨t, rfl⟩ hd) fun σ H Q h => constE h fun _ _ => rfl⟩
theorem se_fr {e : Expr} {de : DE} (h : SE X ca W e de) : SE X ca W e (dFr de) := ⟨PE.imp h.pe fun σ H Q q => by
  obtain ⟨w, ρ, S, k⟩ := q
  refine ⟨w, ρ, S, ?_⟩
  unfold dFr at k
  cases e : de ρ with
  | bad => simp only [e] at k; exact k
  | exc x ρ1 => simp only [e] at k; exact k
  | ok t ρ1 =>
    simp only [e, ER.bind] at k
    intro w1 H1 v A1 S1
    cases ef : t.frz with
    | none => simp only [ef] at k; exact k.elim
    | some p =>
      obtain ⟨b, d⟩ := p
      simp only [ef] at k
      obtain ⟨w2, A2, S2⟩ := S1.freeze ef
      exact k w2 H1 v (A1.trans A2) S2⟩

/-! operators -/
def OpS (X : Cx) (ca : Cad) (W : WX) (fop : Value → Value → Sem Value) (f : T → T → DE) : Prop :=
  ∃ r : R2, OpR X fop r ∧ ∀ w H σ Q x y ρ v u, Stt ⟨X.K, ca⟩ w H (x :: y :: ρ) (some v :: some u :: σ) → kE ⟨X.K, ca⟩ W w H σ Q (f x y ρ) → r v u H Q
theorem se_bin {a b : Expr} {op : Operator} {f : T → T → DE} {da db : DE} {pos : Pos} (o : OpS X ca W (binaryOp op) f) (ha : SE X ca W a da) (hb : SE X ca W b db) : SE X ca W (.BinOp a op b pos) (d2 f da db) := by
  obtain ⟨r, hr, h⟩ := o
  exact ⟨PE.imp (pe_op hr ha.pe hb.pe) fun σ H Q q => two q fun w H x y ρ v u S k => h w H σ Q x y ρ v u S k⟩
theorem se_cmp {a b : Expr} {op : CmpOp} {f : T → T → DE} {da db : DE} {pos : Pos} (o : OpS X ca W (compareOp op) f) (ha : SE X ca W a da) (hb : SE X ca W b db) (hm : behindInMarks op b = false := by first | exact nomark _ | rfl) : SE X ca W (.Compare a [op] [b] pos) (d2 f da db) := by
  obtain ⟨r, hr, h⟩ := o
  exact ⟨PE.imp (pe_cmpR hr ha.pe hb.pe hm) fun σ H Q q => two q fun w H x y ρ v u S k => h w H σ Q x y ρ v u S k⟩
theorem two_val {f : T → T → DE} {da db : DE} {r : R2} {Q : Bool → Hp → Prop} (h : tT C W (dtVal (d2 f da db)) σ H Q) (hr : ∀ w H σ Q x y ρ v u, Stt C w H (x :: y :: ρ) (some v :: some u :: σ) → kE C W w H σ Q (f x y ρ) → r v u H Q) :
    tTest (tOp r (tE C W da) (tE C W db)) σ H Q := two (val_of h) fun w H x y ρ v u S k => hr w H σ _ x y ρ v u S k
theorem st_cmp {a b : Expr} {op : CmpOp} {f : T → T → DE} {da db : DE} {pos : Pos} (o : OpS X ca W (compareOp op) f) (ha : SE X ca W a da) (hb : SE X ca W b db) (hm : behindInMarks op b = false := by first | exact nomark _ | rfl) : ST X ca W (.Compare a [op] [b] pos) (dtVal (d2 f da db)) := by
  obtain ⟨r, hr, h⟩ := o
  exact ⟨PT.imp (pt_cmpR hr ha.pe hb.pe hm) fun σ H Q q => two_val q h⟩
/-- scalars in, a scalar out -/
def fS (g : D → D → Option D) : T → T → DE := fun x y ρ => match x, y with
  | .imm _ d, .imm _ e => match g d e with
    | some r => .ok (.imm false r) ρ
    | none => .bad
  | _, _ => .bad
theorem ok_scal {d : D} {y : V} {Q : VK} {τ τ' : T} {v u : V} (S : Stt C w H (τ :: τ' :: ρ) (some v :: some u :: σ)) (k : kE C W w H σ Q (.ok (.imm false d) ρ)) (r : RD C H (w.im false) d y) : Q y H :=
  k w H y .refl (S.drop.drop.cons_imm r)
def gInt (f : Int → Int → Option Int) : D → D → Option D
  | .int i, .int j => (f i j).map D.int
  | _, _ => none
theorem ops_int {fop : Value → Value → Sem Value} {f : Int → Int → Option Int} {Cc : Int → Int → Prop} {g : Int → Int → Int} (ho : OpR X fop (rI Cc fun i j => .int (g i j))) (hf : ∀ i j z, f i j = some z → Cc i j ∧ z = g i j) : OpS X ca W fop (fS (gInt f)) := by
  refine ⟨_, ho, fun w H σ Q x y ρ v u S k => ?_⟩
  unfold fS at k
  split at k
  · rename_i b d c e
    cases eg : gInt f d e with
    | none => simp only [eg] at k; exact k.elim
    | some r =>
      simp only [eg] at k
      unfold gInt at eg
      split at eg
      · rename_i i j
        cases ez : f i j with
        | none => simp [ez] at eg
        | some z =>
          simp [ez] at eg
          subst eg
          obtain ⟨hc, rfl⟩ := hf i j z ez
          have e1 := S.head_int
          have e2 := S.drop.head_int
          subst e1; subst e2
          exact ⟨i, j, rfl, rfl, hc, ok_scal S k rfl⟩
      · cases eg
  · exact k.elim
def small (i : Int) : Bool := decide (-18446744073709551616 < i ∧ i < 18446744073709551616)
def B200 : Int := 10 ^ 200
def mid (i : Int) : Bool := decide (-B200 < i ∧ i < B200)
def mulI (i j : Int) : Option Int := if small i || small j || (mid i && mid j) then some (i * j) else none
def divI (i j : Int) : Option Int := if decide (0 < j) && mid j then some (i / j) else none
def modI (i j : Int) : Option Int := if decide (0 < j) then some (i % j) else if decide (j < 0) then some (i.fmod j) else none
def powI (i j : Int) : Option Int := if decide (0 ≤ j) && decide (j ≤ 1000000) && small i then some (i ^ j.toNat) else none
def shlI (i j : Int) : Option Int := if decide (0 ≤ j) && decide (j ≤ 100000) && mid i then some (i * 2 ^ j.toNat) else none
def shrI (i j : Int) : Option Int := if decide (0 ≤ j) then some (i / 2 ^ j.toNat) else none
theorem mid_bits {i : Int} (h : mid i = true) : i.natAbs < 2 ^ 665 := by
  unfold mid at h
  have h := of_decide_eq_true h
  have e : B200 ≤ ((2 ^ 665 : Nat) : Int) := by unfold B200; decide +kernel
  have : (i.natAbs : Int) < ((2 ^ 665 : Nat) : Int) := by omega
  exact Int.ofNat_lt.mp this
theorem ops_sub : OpS X ca W (binaryOp .Sub) (fS (gInt fun i j => some (i - j))) := ops_int (Cc := fun _ _ => True) (g := fun i j => i - j) (by
  intro pins s σ H x y v u Q I rx ry h
  obtain ⟨i, j, e1, e2, _, q⟩ := h
  exact op_sub pins s σ H x y v u Q I rx ry ⟨i, j, e1, e2, q⟩) fun i j z h => ⟨trivial, by simpa using h.symm⟩
theorem ops_mod : OpS X ca W (binaryOp .Mod) (fS (gInt modI)) := ops_int (Cc := fun _ j => j ≠ 0) (g := fun i j => i.fmod j) op_modN fun i j z h => by
  unfold modI at h
  split at h
  · rename_i hj
    have hj := of_decide_eq_true hj
    cases h
    exact ⟨by omega, (Int.fmod_eq_emod_of_nonneg i (by omega)).symm⟩
  · split at h
    · rename_i hj
      have hj := of_decide_eq_true hj
      cases h
      exact ⟨by omega, rfl⟩
    · cases h
theorem ops_div : OpS X ca W (binaryOp .FloorDiv) (fS (gInt divI)) := ops_int (g := fun i j => i / j) op_fdivW fun i j z h => by
  unfold divI at h
  split at h
  · rename_i hj
    rw [Bool.and_eq_true] at hj
    cases h
    exact ⟨wide_div (of_decide_eq_true hj.1) (mid_bits hj.2) (by decide) (by decide), rfl⟩
  · cases h
theorem OpR.imp {fop : Value → Value → Sem Value} {r r' : R2} (h : OpR X fop r) (i : ∀ x y H Q, r' x y H Q → r x y H Q) : OpR X fop r' := fun pins s σ H x y v u Q I rx ry q => h pins s σ H x y v u Q I rx ry (i x y H Q q)
theorem ops_pow : OpS X ca W (binaryOp .Pow) (fS (gInt powI)) := ops_int (g := fun i j => i ^ j.toNat) op_pow fun i j z h => by
  unfold powI at h
  split at h
  · rename_i hj
    rw [Bool.and_eq_true, Bool.and_eq_true] at hj
    obtain ⟨⟨h1, h2⟩, h3⟩ := hj
    cases h
    refine ⟨⟨of_decide_eq_true h1, of_decide_eq_true h2, ?_⟩, rfl⟩
    have h3 := of_decide_eq_true h3
    omega
  · cases h
theorem ops_shl : OpS X ca W (binaryOp .LShift) (fS (gInt shlI)) := ops_int (g := fun i j => i * 2 ^ j.toNat) op_shlW fun i j z h => by
  unfold shlI at h
  split at h
  · rename_i hj
    rw [Bool.and_eq_true, Bool.and_eq_true] at hj
    obtain ⟨⟨h1, h2⟩, h3⟩ := hj
    cases h
    have h1 := of_decide_eq_true h1
    have h2 := of_decide_eq_true h2
    refine ⟨?_, rfl⟩
    have := shl_ok (j := j.toNat) (mid_bits h3) (by omega)
    rwa [Int.toNat_of_nonneg h1] at this
  · cases h
theorem ops_shr : OpS X ca W (binaryOp .RShift) (fS (gInt shrI)) := ops_int (g := fun i j => i / 2 ^ j.toNat) op_shr fun i j z h => by
  unfold shrI at h
  split at h
  · rename_i hj
    cases h
    exact ⟨of_decide_eq_true hj, rfl⟩
  · cases h
theorem ops_i0 {op : Value → Value → Sem Value} {g : Int → Int → Int} (ho : OpR X op (rI0 fun i j => .int (g i j))) : OpS X ca W op (fS (gInt fun i j => some (g i j))) := ops_int (Cc := fun _ _ => True) (g := g) (OpR.imp ho fun x y H Q ⟨i, j, e1, e2, _, q⟩ => ⟨i, j, e1, e2, q⟩) fun i j z h => ⟨trivial, by simpa using h.symm⟩
theorem ops_and : OpS X ca W (binaryOp .BitAnd) (fS (gInt fun i j => some (Builtin.bitAnd i j))) := ops_i0 op_and
theorem ops_or : OpS X ca W (binaryOp .BitOr) (fS (gInt fun i j => some (Builtin.bitOr i j))) := ops_i0 op_or
/-- + and *: of ints, texts, lists, tuples -/
def fAdd : T → T → DE := fun x y ρ => match x, y with
  | .imm _ (.int i), .imm _ (.int j) => .ok (.imm false (.int (i + j))) ρ
  | .imm _ (.str a), .imm _ (.str b) => if a.length + b.length ≤ sizeLine then .ok (.imm false (.str (a ++ b))) ρ else .bad
  | .imm false (.lst a), .imm false (.lst b) => if a.length + b.length ≤ sizeLine then .ok (.lstI (a ++ b)) ρ else .bad
  | .imm b (.tup xs), .imm c (.tup ys) => if xs.length + ys.length ≤ sizeLine then .ok (.imm (b || c) (.tup (xs ++ ys))) ρ else .bad
  | _, _ => .bad
theorem im_or1 {b c : Bool} : ∀ a, w.im b a → w.im (b || c) a ∧ H a = H a := fun a z => ⟨z.elim .inl fun z => .inr ⟨by simp [z.1], z.2⟩, rfl⟩
theorem im_or2 {b c : Bool} : ∀ a, w.im c a → w.im (b || c) a ∧ H a = H a := fun a z => ⟨z.elim .inl fun z => .inr ⟨by simp [z.1], z.2⟩, rfl⟩
/-- a new tuple of shared things, shared at once -/
theorem Stt.newT {p : Addr} {b : Bool} {ds : List D} {vs : List V} (h : Stt C w H ρ σ) (r : RDs C H (w.im b) ds vs) (hp : H p = none) : ∃ w', After w H w' (upd H p (.tup vs)) ∧ Stt C w' (upd H p (.tup vs)) (.imm b (.tup ds) :: ρ) (some (.ref p) :: σ) := by
  obtain ⟨A, S⟩ := h.newI (o := .tup vs) hp
  exact ⟨_, A, S.cons_imm ⟨p, vs, rfl, ⟨.inl (.inr rfl), upd_same⟩, RDs_mono A.im _ _ r⟩⟩
theorem ops_add : OpS X ca W (binaryOp .Add) fAdd := by
  refine ⟨_, (op_add.or op_add_str).or (op_cat.or op_catA), fun w H σ Q x y ρ v u S k => ?_⟩
  unfold fAdd at k
  split at k
  · rename_i fb i fc j
    have e1 := S.head_int
    have e2 := S.drop.head_int
    subst e1; subst e2
    exact .inl (.inl ⟨i, j, rfl, rfl, ok_scal S k rfl⟩)
  · rename_i fb a fc b
    obtain ⟨x', ex, r⟩ := S.head_imm
    cases ex
    obtain ⟨y', ey, r2⟩ := S.drop.head_imm
    cases ey
    split at k
    · rename_i hl
      exact .inl (.inr ⟨a, b, r, r2, hl, ok_scal S k rfl⟩)
    · exact k.elim
  · rename_i a b
    obtain ⟨x', ex, p, vs, e1, ⟨l1, l2⟩, rd⟩ := S.head_imm
    cases ex
    obtain ⟨y', ey, q, us, e2, ⟨m1, m2⟩, re⟩ := S.drop.head_imm
    cases ey
    split at k
    · rename_i hl
      refine .inr (.inl ⟨p, q, vs, us, e1, e2, l2, m2, by rw [← rd.length, ← re.length]; exact hl, fun n hn => ?_⟩)
      obtain ⟨A, S'⟩ := S.drop.drop.newL (ds := a ++ b) (vs := vs ++ us) (RDs.append (RDs_mono (fun a z => ⟨im_false z, rfl⟩) _ _ rd) (RDs_mono (fun a z => ⟨im_false z, rfl⟩) _ _ re)) hn
      exact k w _ _ A S'
    · exact k.elim
  · rename_i b xs c ys
    obtain ⟨x', ex, p, vs, e1, ⟨l1, l2⟩, rd⟩ := S.head_imm
    cases ex
    obtain ⟨y', ey, q, us, e2, ⟨m1, m2⟩, re⟩ := S.drop.head_imm
    cases ey
    split at k
    · rename_i hl
      refine .inr (.inr ⟨p, q, vs, us, e1, e2, .of l2, .of m2, by rw [← rd.length, ← re.length]; exact hl, fun hx => ?_, fun hx hy => ?_, fun hx hy n hn => ?_⟩)
      · subst hx
        have e : xs = [] := List.length_eq_zero_iff.mp (by rw [rd.length]; rfl)
        subst e
        exact k w H _ .refl (S.drop.drop.cons_imm ⟨q, us, rfl, ⟨(im_or2 (H := H) _ m1).1, m2⟩, RDs_mono im_or2 _ _ re⟩)
      · subst hy
        have e : ys = [] := List.length_eq_zero_iff.mp (by rw [re.length]; rfl)
        subst e
        refine k w H _ .refl (S.drop.drop.cons_imm ⟨p, vs, rfl, ⟨(im_or1 (H := H) _ l1).1, l2⟩, ?_⟩)
        rw [List.append_nil]
        exact RDs_mono im_or1 _ _ rd
      · obtain ⟨w', A, S'⟩ := S.drop.drop.newT (ds := xs ++ ys) (vs := vs ++ us) (RDs.append (RDs_mono im_or1 _ _ rd) (RDs_mono im_or2 _ _ re)) hn
        exact k w' _ _ A S'
    · exact k.elim
  · exact k.elim
def fMul : T → T → DE := fun x y ρ => match x, y with
  | .imm _ (.int i), .imm _ (.int j) => match mulI i j with
    | some z => .ok (.imm false (.int z)) ρ
    | none => .bad
  | .imm false (.lst a), .imm _ (.int n) => if decide (-16777216 < n) && decide (n < 16777216) && decide (a.length * n.toNat ≤ sizeLine) then .ok (.lstI (List.replicate n.toNat a).flatten) ρ else .bad
  | _, _ => .bad
theorem RDs.rep {A : Addr → Prop} {ds : List D} {vs : List V} (r : RDs C H A ds vs) : ∀ n : Nat, RDs C H A (List.replicate n ds).flatten (List.replicate n vs).flatten
  | 0 => by simp [RDs]
  | n + 1 => by
    simp only [List.replicate_succ, List.flatten_cons]
    exact RDs.append r (RDs.rep r n)
theorem ops_mul : OpS X ca W (binaryOp .Mult) fMul := by
  refine ⟨_, (op_mul.or op_mulW).or op_rep, fun w H σ Q x y ρ v u S k => ?_⟩
  unfold fMul at k
  split at k
  · rename_i fb i fc j
    have e1 := S.head_int
    have e2 := S.drop.head_int
    subst e1; subst e2
    cases em : mulI i j with
    | none => simp only [em] at k; exact k.elim
    | some z =>
      simp only [em] at k
      unfold mulI at em
      split at em
      · rename_i hc
        cases em
        simp only [Bool.or_eq_true, Bool.and_eq_true] at hc
        rcases hc with (hc | hc) | hc
        · have hc := of_decide_eq_true hc
          exact .inl (.inl ⟨i, j, rfl, rfl, .inl ⟨by omega, by omega⟩, ok_scal S k rfl⟩)
        · have hc := of_decide_eq_true hc
          exact .inl (.inl ⟨i, j, rfl, rfl, .inr ⟨by omega, by omega⟩, ok_scal S k rfl⟩)
        · exact .inl (.inr ⟨i, j, rfl, rfl, wide_mul (mid_bits hc.1) (mid_bits hc.2) (by decide) (by decide) (by decide), ok_scal S k rfl⟩)
      · cases em
  · rename_i a fc n
    obtain ⟨x', ex, p, vs, e1, ⟨l1, l2⟩, rd⟩ := S.head_imm
    cases ex
    have e2 := S.drop.head_int
    subst e2
    split at k
    · rename_i hc
      simp only [Bool.and_eq_true, decide_eq_true_eq] at hc
      refine .inr ⟨p, n, vs, e1, rfl, l2, by omega, by omega, by rw [← rd.length]; exact hc.2, fun q hq => ?_⟩
      obtain ⟨A, S'⟩ := S.drop.drop.newL (ds := (List.replicate n.toNat a).flatten) (vs := (List.replicate n.toNat vs).flatten) (RDs.rep (RDs_mono (fun a z => ⟨im_false z, rfl⟩) _ _ rd) _) hq
      exact k w _ _ A S'
    · exact k.elim
  · exact k.elim
def gCmp (p : Int → Int → Bool) : D → D → Option D
  | .int i, .int j => some (.bl (p i j))
  | _, _ => none
theorem ops_cmp {op : Value → Value → Sem Value} {p : Int → Int → Bool} (ho : OpR X op (rI0 fun i j => .bl (p i j))) : OpS X ca W op (fS (gCmp p)) := by
  refine ⟨_, ho, fun w H σ Q x y ρ v u S k => ?_⟩
  unfold fS at k
  split at k
  · rename_i b d c e
    cases eg : gCmp p d e with
    | none => simp only [eg] at k; exact k.elim
    | some r =>
      simp only [eg] at k
      unfold gCmp at eg
      split at eg
      · rename_i i j
        cases eg
        have e1 := S.head_int
        have e2 := S.drop.head_int
        subst e1; subst e2
        exact ⟨i, j, rfl, rfl, ok_scal S k rfl⟩
      · cases eg
  · exact k.elim
theorem ops_lt : OpS X ca W (compareOp .Lt) (fS (gCmp fun i j => decide (i < j))) := ops_cmp op_lt
theorem ops_le : OpS X ca W (compareOp .LtE) (fS (gCmp fun i j => decide (i ≤ j))) := ops_cmp op_le
theorem ops_gt : OpS X ca W (compareOp .Gt) (fS (gCmp fun i j => decide (j < i))) := ops_cmp op_gt
/-! equality of plain data -/
mutual
def D.py : D → Option PyData
  | .non => some .none
  | .bl b => some (.bool b)
  | .int i => some (.int i)
  | .str s => some (.str s)
  | .lst xs => match D.pys xs with | some ys => some (.list ys) | none => none
  | .tup xs => match D.pys xs with | some ys => some (.tuple ys) | none => none
  | .scr ns => some (.list (ns.map PyData.int))
  | .ty _ | .dic _ _ | .obj _ _ _ | .exn _ _ _ _ => none
def D.pys : List D → Option (List PyData)
  | [] => some []
  | d :: ds => match d.py, D.pys ds with
    | some p, some ps => some (p :: ps)
    | _, _ => none
end
mutual
theorem RD_py {A : Addr → Prop} : (d : D) → (v : V) → (p : PyData) → RD C H A d v → d.py = some p → Dp C.K H v p
  | .non, v, p, r, e => by
    cases e; cases (show v = .non from r); exact .non
  | .bl b, v, p, r, e => by
    cases e; cases (show v = .bl b from r); exact .bl b
  | .int i, v, p, r, e => by
    cases e; cases (show v = .int i from r); exact .int i
  | .str s, v, p, r, e => by
    cases e; cases (show v = .str s from r); exact .str s
  | .lst xs, v, p, r, e => by
    obtain ⟨a, vs, rfl, ⟨l1, l2⟩, rd⟩ := r
    unfold D.py at e
    cases q : D.pys xs with
    | none => simp [q] at e
    | some ys =>
      simp [q] at e
      subst e
      exact .lst (.of l2) (RDs_py xs vs ys rd q)
  | .tup xs, v, p, r, e => by
    obtain ⟨a, vs, rfl, ⟨l1, l2⟩, rd⟩ := r
    unfold D.py at e
    cases q : D.pys xs with
    | none => simp [q] at e
    | some ys =>
      simp [q] at e
      subst e
      exact .tup (.of l2) (RDs_py xs vs ys rd q)
  | .scr ns, v, p, r, e => by
    obtain ⟨a, rfl, l⟩ := r
    cases e
    refine .lst l.sq ?_
    clear l
    induction ns with
    | nil => exact .nil
    | cons n ns ih => exact .cons (.int n) ih
  | .ty _, _, _, _, e => by cases e
  | .dic _ _, _, _, _, e => by cases e
  | .obj _ _ _, _, _, _, e => by cases e
  | .exn _ _ _ _, _, _, _, e => by cases e
theorem RDs_py {A : Addr → Prop} : (ds : List D) → (vs : List V) → (ps : List PyData) → RDs C H A ds vs → D.pys ds = some ps → DpAll C.K H vs ps
  | [], vs, ps, r, e => by
    cases (show vs = [] from r)
    cases e
    exact .nil
  | d :: ds, vs, ps, r, e => by
    obtain ⟨v, r, rfl, h1, h2⟩ := r
    unfold D.pys at e
    cases q1 : d.py with
    | none => simp [q1] at e
    | some p1 =>
      cases q2 : D.pys ds with
      | none => simp [q1, q2] at e
      | some p2 =>
        simp [q1, q2] at e
        subst e
        exact .cons (RD_py d v p1 h1 q1) (RDs_py ds r p2 h2 q2)
end
def D.eqv (d e : D) : Option Bool := match d.py, e.py with
  | some p, some q => if SeqAt.shaped p && SeqAt.shaped q then some (PyData.eqv p q) else none
  | _, _ => none
def gEq : D → D → Option D
  | .str s, .str t => some (.bl (decide (s = t)))
  | d, e => (d.eqv e).map D.bl
def gNe : D → D → Option D
  | .str s, .str t => some (.bl (!decide (s = t)))
  | d, e => (d.eqv e).map fun b => D.bl (!b)
theorem dec_V {s t : Str} : decide (V.str s = V.str t) = decide (s = t) := by
  rw [Bool.eq_iff_iff]
  simp
theorem gEq_way (d e : D) : (∃ s t, d = .str s ∧ e = .str t) ∨ gEq d e = (d.eqv e).map D.bl := by
  cases d <;> cases e <;> first | exact .inl ⟨_, _, rfl, rfl⟩ | exact .inr rfl
theorem gNe_way (d e : D) : (∃ s t, d = .str s ∧ e = .str t) ∨ gNe d e = (d.eqv e).map fun b => D.bl (!b) := by
  cases d <;> cases e <;> first | exact .inl ⟨_, _, rfl, rfl⟩ | exact .inr rfl
theorem eqv_inv {d e : D} {b : Bool} (h : d.eqv e = some b) : ∃ p q, d.py = some p ∧ e.py = some q ∧ SeqAt.shaped p = true ∧ SeqAt.shaped q = true ∧ b = PyData.eqv p q := by
  unfold D.eqv at h
  split at h
  · rename_i p q hp hq
    split at h
    · rename_i hs
      rw [Bool.and_eq_true] at hs
      cases h
      exact ⟨p, q, hp, hq, hs.1, hs.2, rfl⟩
    · cases h
  · cases h
theorem ops_eq (hu : X.A.units + 64 < cLine) : OpS X ca W (compareOp .Eq) (fS gEq) := by
  refine ⟨_, OpR.or op_eq (op_eqD hu), fun w H σ Q x y ρ v u S k => ?_⟩
  unfold fS at k
  split at k
  · rename_i b d c e
    obtain ⟨x', ex, r1⟩ := S.head_imm
    cases ex
    obtain ⟨y', ey, r2⟩ := S.drop.head_imm
    cases ey
    rcases gEq_way d e with ⟨s, t, rfl, rfl⟩ | ge
    · have r1 : _ = V.str s := r1
      have r2 : _ = V.str t := r2
      subst r1
      subst r2
      refine .inl ⟨rfl, ?_⟩
      rw [dec_V]
      exact ok_scal S k rfl
    · rw [ge] at k
      refine .inr ?_
      cases q : d.eqv e with
      | none => simp only [q, Option.map_none] at k; exact k.elim
      | some z =>
        simp only [q, Option.map_some] at k
        obtain ⟨p, p', e1, e2, s1, s2, rfl⟩ := eqv_inv q
        exact ⟨p, p', RD_py _ _ _ r1 e1, RD_py _ _ _ r2 e2, s1, s2, ok_scal S k rfl⟩
  · exact k.elim
theorem ops_ne (hu : X.A.units + 64 < cLine) : OpS X ca W (compareOp .NotEq) (fS gNe) := by
  refine ⟨_, OpR.or op_ne (op_neD hu), fun w H σ Q x y ρ v u S k => ?_⟩
  unfold fS at k
  split at k
  · rename_i b d c e
    obtain ⟨x', ex, r1⟩ := S.head_imm
    cases ex
    obtain ⟨y', ey, r2⟩ := S.drop.head_imm
    cases ey
    rcases gNe_way d e with ⟨s, t, rfl, rfl⟩ | ge
    · have r1 : _ = V.str s := r1
      have r2 : _ = V.str t := r2
      subst r1
      subst r2
      refine .inl ⟨rfl, ?_⟩
      rw [dec_V]
      exact ok_scal S k rfl
    · rw [ge] at k
      refine .inr ?_
      cases q : d.eqv e with
      | none => simp only [q, Option.map_none] at k; exact k.elim
      | some z =>
        simp only [q, Option.map_some] at k
        obtain ⟨p, p', e1, e2, s1, s2, rfl⟩ := eqv_inv q
        exact ⟨p, p', RD_py _ _ _ r1 e1, RD_py _ _ _ r2 e2, s1, s2, ok_scal S k rfl⟩
  · exact k.elim
/-! is None, is True -/
def D.isNon : D → Bool
  | .non => true
  | _ => false
theorem RD.isNon {A : Addr → Prop} : ∀ {d : D} {v : V}, RD C H A d v → decide (v = .non) = d.isNon
  | .non, v, r => by cases (show v = .non from r); rfl
  | .bl b, v, r => by cases (show v = .bl b from r); rfl
  | .int b, v, r => by cases (show v = .int b from r); rfl
  | .str b, v, r => by cases (show v = .str b from r); rfl
  | .ty b, v, r => by cases (show v = .ty b from r); rfl
  | .lst _, v, r => by obtain ⟨a, vs, rfl, _⟩ := r; rfl
  | .tup _, v, r => by obtain ⟨a, vs, rfl, _⟩ := r; rfl
  | .scr _, v, r => by obtain ⟨a, rfl, _⟩ := r; rfl
  | .dic _ _, v, r => by obtain ⟨a, vs, rfl, _⟩ := r; rfl
  | .obj _ _ _, v, r => by obtain ⟨a, dx, fs, rfl, _⟩ := r; rfl
  | .exn _ _ _ _, v, r => by obtain ⟨rfl, _⟩ := r; rfl
def gIs : D → D → Option D
  | d, .non => some (.bl d.isNon)
  | .bl a, .bl b => some (.bl (a == b))
  | _, _ => none
def gIsNot : D → D → Option D
  | d, .non => some (.bl (!d.isNon))
  | .bl a, .bl b => some (.bl (!(a == b)))
  | _, _ => none
theorem ops_is : OpS X ca W (compareOp .Is) (fS gIs) := by
  refine ⟨_, op_isN.or op_is_bl, fun w H σ Q x y ρ v u S k => ?_⟩
  unfold fS at k
  split at k
  · rename_i b d c e
    obtain ⟨x', ex, r1⟩ := S.head_imm
    cases ex
    obtain ⟨y', ey, r2⟩ := S.drop.head_imm
    cases ey
    unfold gIs at k
    split at k
    · rename_i r hr
      split at hr
      · cases hr
        exact .inl ⟨r2, by rw [r1.isNon]; exact ok_scal S k rfl⟩
      · rename_i p q
        cases hr
        exact .inr ⟨p, q, r1, r2, by rw [← Bool.beq_eq_decide_eq]; exact ok_scal S k rfl⟩
      · cases hr
    · exact k.elim
  · exact k.elim
theorem ops_isnot : OpS X ca W (compareOp .IsNot) (fS gIsNot) := by
  refine ⟨_, op_notN.or op_isnot_bl, fun w H σ Q x y ρ v u S k => ?_⟩
  unfold fS at k
  split at k
  · rename_i b d c e
    obtain ⟨x', ex, r1⟩ := S.head_imm
    cases ex
    obtain ⟨y', ey, r2⟩ := S.drop.head_imm
    cases ey
    unfold gIsNot at k
    split at k
    · rename_i r hr
      split at hr
      · cases hr
        exact .inl ⟨r2, by rw [r1.isNon]; exact ok_scal S k rfl⟩
      · rename_i p q
        cases hr
        exact .inr ⟨p, q, r1, r2, by rw [← Bool.beq_eq_decide_eq]; exact ok_scal S k rfl⟩
      · cases hr
    · exact k.elim
  · exact k.elim
end
end Gb

namespace Gb
open PySem PySem.Spec L2
section
variable {C : Ct} {W : WX} {pn ch : List Nat} {w w' : Wd} {H H' : Hp} {σ σ' : L2.St} {En : Ends} {X : Cx} {ca : Cad} {ρ : List T} {t u : T} {v x : Option V}
/-! one operand -/
def UnS (X : Cx) (ca : Cad) (W : WX) (fop : Value → Sem Value) (f : T → DE) : Prop :=
  ∃ r : V → Hp → VK → Prop, UnR X fop r ∧ ∀ w H σ Q x ρ v, Stt ⟨X.K, ca⟩ w H (x :: ρ) (some v :: σ) → kE ⟨X.K, ca⟩ W w H σ Q (f x ρ) → r v H Q
theorem se_un {a : Expr} {op : UnaryOp} {f : T → DE} {da : DE} {pos : Pos} (o : UnS X ca W (unaryOp op) f) (ha : SE X ca W a da) : SE X ca W (.UnaryOp op a pos) (d1 f da) := by
  obtain ⟨r, hr, h⟩ := o
  exact ⟨PE.imp (pe_un hr ha.pe) fun σ H Q q => one q fun w H x ρ v S k => h w H σ Q x ρ v S k⟩
def fU (g : Int → Int) : T → DE := fun x ρ => match x with
  | .imm _ (.int i) => .ok (.imm false (.int (g i))) ρ
  | _ => .bad
theorem uns_int {op : Value → Sem Value} {g : Int → Int} (ho : UnR X op (rU fun i => .int (g i))) : UnS X ca W op (fU g) := by
  refine ⟨_, ho, fun w H σ Q x ρ v S k => ?_⟩
  unfold fU at k
  split at k
  · rename_i b i
    have e := S.head_int
    subst e
    exact ⟨i, rfl, k w H _ .refl (S.drop.cons_imm rfl)⟩
  · exact k.elim
theorem uns_neg : UnS X ca W (unaryOp .USub) (fU fun i => -i) := uns_int un_neg
/-! chains -/
def dChain (f f' : T → T → DE) (da db dc : DE) : DE := fun ρ => (da ρ).bind fun x ρ1 => (db ρ1).bind fun y ρ2 => match y with
  | .imm b d => (f x (.imm b d) ρ2).bind fun z ρ3 => match z with
    | .imm _ (.bl true) => (dc ρ3).bind fun z' ρ4 => f' (.imm b d) z' ρ4
    | .imm _ (.bl false) => .ok (.imm false (.bl false)) ρ3
    | _ => .bad
  | _ => .bad
theorem chainT {f f' : T → T → DE} {fop fop' : Value → Value → Sem Value} {da db dc : DE} {r r' : R2} {Q : VK}
    (h : ∀ w H σ Q x y ρ v u, Stt C w H (x :: y :: ρ) (some v :: some u :: σ) → kE C W w H σ Q (f x y ρ) → r v u H Q)
    (h' : ∀ w H σ Q x y ρ v u, Stt C w H (x :: y :: ρ) (some v :: some u :: σ) → kE C W w H σ Q (f' x y ρ) → r' v u H Q)
    (q : tE C W (dChain f f' da db dc) σ H Q) : tChain r r' (tE C W da) (tE C W db) (tE C W dc) σ H Q := by
  refine one (r := fun v H1 Q => tE C W db σ H1 fun u H2 => r v u H2 fun z H3 => ∃ k, z = .bl k ∧ (if k = true then tE C W dc σ H3 fun w' H4 => r' u w' H4 Q else Q (.bl false) H3)) (f := fun x ρ1 => (db ρ1).bind fun y ρ2 => match y with
    | .imm b d => (f x (.imm b d) ρ2).bind fun z ρ3 => match z with
      | .imm _ (.bl true) => (dc ρ3).bind fun z' ρ4 => f' (.imm b d) z' ρ4
      | .imm _ (.bl false) => .ok (.imm false (.bl false)) ρ3
      | _ => .bad
    | _ => .bad) q fun w H x ρ v S k => ?_
  refine aside (g := fun y ρ2 => match y with
    | .imm b d => (f x (.imm b d) ρ2).bind fun z ρ3 => match z with
      | .imm _ (.bl true) => (dc ρ3).bind fun z' ρ4 => f' (.imm b d) z' ρ4
      | .imm _ (.bl false) => .ok (.imm false (.bl false)) ρ3
      | _ => .bad
    | _ => .bad) S k fun w1 H1 y ρ1 u S1 k1 => ?_
  cases y with
  | imm b d =>
    simp only at k1
    obtain ⟨y', ey, ry⟩ : ∃ y', some u = some y' ∧ RD C H1 (w1.im b) d y' := by
      obtain ⟨wt, eI, eB, S2, _⟩ := S1.push
      obtain ⟨y', ey, ry⟩ := S2.head_imm
      refine ⟨y', ey, ?_⟩
      have : wt.im b = w1.im b := by unfold Wd.im; rw [eI, eB]
      rwa [this] at ry
    cases ey
    refine h w1 H1 σ _ x (.imm b d) ρ1 v u S1 ?_
    cases ef : f x (.imm b d) ρ1 with
    | bad => rw [ef] at k1; exact k1
    | exc e ρ2 => rw [ef] at k1; exact k1
    | ok z ρ2 =>
      simp only [ef, ER.bind] at k1
      intro w2 H2 zv A2 S2
      cases z with
      | imm c e =>
        cases e with
        | bl bb =>
          obtain ⟨zv', ez, rz⟩ := S2.head_imm
          cases ez
          have rz : zv = .bl bb := rz
          have S3 : Stt C w2 H2 (.imm b d :: ρ2) (some u :: σ) := S2.drop.cons_imm (RD_mono A2.im _ _ ry)
          cases bb with
          | false => exact ⟨false, rz, by rw [if_neg (by simp)]; exact k1 w2 H2 _ A2 (S2.drop.cons_imm rfl)⟩
          | true =>
            refine ⟨true, rz, ?_⟩
            rw [if_pos rfl]
            simp only at k1
            exact aside (g := fun z' ρ4 => f' (.imm b d) z' ρ4) (R := fun w' H4 => r' u w' H4 Q) S3 (kE.after A2 k1) fun w4 H4 z' ρ4 u4 S4 k4 => h' w4 H4 σ Q _ z' ρ4 u u4 S4 k4
        | _ => exact (show False from k1).elim
      | _ => exact (show False from k1).elim
  | _ => exact (show False from k1).elim
theorem se_chain {a b c : Expr} {op op' : CmpOp} {f f' : T → T → DE} {da db dc : DE} {pos : Pos} (o : OpS X ca W (compareOp op) f) (o' : OpS X ca W (compareOp op') f') (ha : SE X ca W a da) (hb : SE X ca W b db) (hc : SE X ca W c dc) (hm : lastMarks [op, op'] [b, c] = false := by with_unfolding_all rfl) :
    SE X ca W (.Compare a [op, op'] [b, c] pos) (dChain f f' da db dc) := by
  obtain ⟨r, hr, h⟩ := o
  obtain ⟨r', hr', h'⟩ := o'
  exact ⟨PE.imp (pe_chain hr hr' ha.pe hb.pe hc.pe hm) fun σ H Q q => chainT (fop := compareOp op) (fop' := compareOp op') h h' q⟩
theorem st_chain {a b c : Expr} {op op' : CmpOp} {f f' : T → T → DE} {da db dc : DE} {pos : Pos} (o : OpS X ca W (compareOp op) f) (o' : OpS X ca W (compareOp op') f') (ha : SE X ca W a da) (hb : SE X ca W b db) (hc : SE X ca W c dc) (hm : lastMarks [op, op'] [b, c] = false := by with_unfolding_all rfl) :
    ST X ca W (.Compare a [op, op'] [b, c] pos) (dtVal (dChain f f' da db dc)) := by
  obtain ⟨r, hr, h⟩ := o
  obtain ⟨r', hr', h'⟩ := o'
  exact ⟨PT.imp (pt_chain hr hr' ha.pe hb.pe hc.pe hm) fun σ H Q q => chainT (fop := compareOp op) (fop' := compareOp op') h h' (val_of q)⟩

/-! and, or, not as values; a if c else b -/
def dAnd (da db : DE) : DE := fun ρ => (da ρ).bind fun x ρ1 => match x with
  | .imm _ (.bl true) => db ρ1
  | .imm _ (.bl false) => .ok (.imm false (.bl false)) ρ1
  | _ => .bad
def dOr (da db : DE) : DE := fun ρ => (da ρ).bind fun x ρ1 => match x with
  | .imm _ (.bl false) => db ρ1
  | .imm _ (.bl true) => .ok (.imm false (.bl true)) ρ1
  | _ => .bad
theorem se_one {op : BoolOp} {a : Expr} {da : DE} {pos : Pos} (h : SE X ca W a da) : SE X ca W (.BoolOp op [a] pos) da := ⟨pe_one h.pe⟩
theorem se_and {a b : Expr} {rest : List Expr} {da db : DE} {pos : Pos} (ha : SE X ca W a da) (hb : SE X ca W (.BoolOp .And (b :: rest) pos) db) : SE X ca W (.BoolOp .And (a :: b :: rest) pos) (dAnd da db) := ⟨PE.imp (pe_and ha.pe hb.pe) fun σ H Q q =>
  one (r := fun v H1 Q => ∃ c, v = .bl c ∧ if c = true then tE _ W db σ H1 Q else Q (.bl false) H1) q fun w H x ρ v S k => by
    split at k
    · obtain ⟨v', ev, r⟩ := S.head_imm
      cases ev
      exact ⟨true, r, by rw [if_pos rfl]; exact ⟨w, ρ, S.drop, k⟩⟩
    · obtain ⟨v', ev, r⟩ := S.head_imm
      cases ev
      exact ⟨false, r, by rw [if_neg (by simp)]; exact k w H _ .refl (S.drop.cons_imm rfl)⟩
    · exact k.elim⟩
theorem se_or {a b : Expr} {rest : List Expr} {da db : DE} {pos : Pos} (ha : SE X ca W a da) (hb : SE X ca W (.BoolOp .Or (b :: rest) pos) db) : SE X ca W (.BoolOp .Or (a :: b :: rest) pos) (dOr da db) := ⟨PE.imp (pe_or ha.pe hb.pe) fun σ H Q q =>
  one (r := fun v H1 Q => ∃ c, v = .bl c ∧ if c = true then Q (.bl true) H1 else tE _ W db σ H1 Q) q fun w H x ρ v S k => by
    split at k
    · obtain ⟨v', ev, r⟩ := S.head_imm
      cases ev
      exact ⟨false, r, by rw [if_neg (by simp)]; exact ⟨w, ρ, S.drop, k⟩⟩
    · obtain ⟨v', ev, r⟩ := S.head_imm
      cases ev
      exact ⟨true, r, by rw [if_pos rfl]; exact k w H _ .refl (S.drop.cons_imm rfl)⟩
    · exact k.elim⟩
def dNot (da : DE) : DE := d1 (fun x ρ => match x with
  | .imm _ (.bl b) => .ok (.imm false (.bl (!b))) ρ
  | _ => .bad) da
theorem se_not {a : Expr} {da : DE} {pos : Pos} (ha : SE X ca W a da) : SE X ca W (.UnaryOp .Not a pos) (dNot da) := ⟨PE.imp (pe_not ha.pe) fun σ H Q q =>
  one (r := fun v H1 Q => ∃ c, v = .bl c ∧ Q (.bl (!c)) H1) q fun w H x ρ v S k => by
    split at k
    · obtain ⟨v', ev, r⟩ := S.head_imm
      cases ev
      exact ⟨_, r, k w H _ .refl (S.drop.cons_imm rfl)⟩
    · exact k.elim⟩
def dIfE (dc : DT) (da db : DE) : DE := fun ρ => match dc ρ with
  | .ok b ρ1 => if b then da ρ1 else db ρ1
  | .exc e ρ1 => .exc e ρ1
  | .bad => .bad
theorem se_if {c a b : Expr} {dc : DT} {da db : DE} {pos : Pos} (hc : ST X ca W c dc) (ha : SE X ca W a da) (hb : SE X ca W b db) : SE X ca W (.IfExp c a b pos) (dIfE dc da db) := ⟨PE.imp (pe_ifExp hc.pt ha.pe hb.pe) fun σ H Q q => by
  obtain ⟨w, ρ, S, k⟩ := q
  refine ⟨w, ρ, S, ?_⟩
  unfold dIfE at k
  cases e : dc ρ with
  | bad => rw [e] at k; exact k
  | exc x ρ1 => rw [e] at k; exact k
  | ok x ρ1 =>
    rw [e] at k
    intro w1 H1 A1 S1
    cases x with
    | true => exact ⟨w1, ρ1, S1, kE.after A1 k⟩
    | false => exact ⟨w1, ρ1, S1, kE.after A1 k⟩⟩

/-! displays -/
theorem Stt.freezes {ts : List T} {vs : L2.St} {b : Bool} {ds : List D} (h : Stt C w H (ts ++ ρ) (vs ++ σ)) (l : vs.length = ts.length) (e : frzs ts = some (b, ds)) : ∃ w' xs, After w H w' H ∧ Stt C w' H ρ σ ∧ vs = xs.map some ∧ RDs C H (w'.im b) ds xs := by
  obtain ⟨F, rt, nd, out, tr, tb⟩ := h
  obtain ⟨v1, v2, f1, f2, ev, rfl, h1, h2⟩ := rt.split
  have l1 := h1.length
  obtain ⟨rfl, rfl⟩ := List.append_inj ev (by omega)
  have nd2 := List.nodup_append.mp nd
  obtain ⟨xs, rfl, hx⟩ := RTs_frz _ _ _ _ _ h1 e
  refine ⟨⟨fun a => w.I a ∨ a ∈ f1, w.B, w.R⟩, xs, ⟨fun a z => .inl z, rfl, rfl, fun a z => ?_, fun _ _ => rfl⟩, ⟨f2, ?_, nd2.2.1, fun a ha => ?_, fun a z => ?_, tb⟩, rfl, hx⟩
  · rcases z with z | z
    · exact .inl z
    · exact .inr (out a (List.mem_append_left _ z)).2
  · exact RTs_mono (w := w) (w' := ⟨fun a => w.I a ∨ a ∈ f1, w.B, w.R⟩) (H := H) (fun a z => ⟨.inl z, rfl⟩) (fun a z => ⟨z, rfl⟩) _ _ _ (fun _ _ => rfl) h2
  · have q := out a (List.mem_append_right _ ha)
    exact ⟨fun z => z.elim q.1 fun z => nd2.2.2 a z a ha rfl, q.2⟩
  · rcases z with (z | z) | z | z
    · exact tr a (.inl z)
    · obtain ⟨o, ho⟩ := RTs_some _ _ _ h1 a z
      rw [ho]; simp
    · exact tr a (.inr (.inl z))
    · exact tr a (.inr (.inr z))
def fTup : List T → List T → ER T := fun ts ρ => if ts.length ≤ 1000 then (match frzs ts with
  | some (b, ds) => .ok (.imm b (.tup ds)) ρ
  | none => .bad) else .bad
def dTup (da : DA) : DE := fun ρ => (da ρ).bind fTup
theorem se_tup {es : List Expr} {k : Nat} {da : DA} {pos : Pos} (h : SA X ca W es da) : SE X ca W (.Tuple es k pos) (dTup da) := ⟨PE.imp (pe_tup h.pa) fun σ H Q q => exA q fun w H ts ρ vs l S k => by
  unfold fTup at k
  split at k
  · rename_i hl
    refine ⟨by rw [l, sizeLine_eq]; omega, fun p hp => ?_⟩
    cases e : frzs ts with
    | none => simp only [e] at k; exact k.elim
    | some q =>
      obtain ⟨b, ds⟩ := q
      simp only [e] at k
      obtain ⟨w1, xs, A1, S1, ex, rd⟩ := S.freezes (by simpa using l) e
      have ex' : vs = xs := by
        have := congrArg (fun l => l.filterMap id) ex
        simpa using this
      subst ex'
      obtain ⟨w2, A2, S2⟩ := S1.newT rd hp
      exact k w2 _ _ (A1.trans A2) S2
  · exact k.elim⟩
def fLst : List T → List T → ER T := fun ts ρ => if ts.length ≤ 1000 then (match frzs ts with
  | some (false, ds) => .ok (.lstI ds) ρ
  | _ => .bad) else .bad
def dLst (da : DA) : DE := fun ρ => (da ρ).bind fLst
theorem RDs.false {ds : List D} {ys : List V} (h : RDs C H (w.im false) ds ys) : RDs C H w.I ds ys := RDs_mono (fun a z => ⟨im_false z, rfl⟩) _ _ h
theorem se_lst {es : List Expr} {da : DA} {pos : Pos} (h : SA X ca W es da) : SE X ca W (.List es pos) (dLst da) := ⟨PE.imp (pe_lst h.pa) fun σ H Q q => exA q fun w H ts ρ vs l S k => by
  unfold fLst at k
  split at k
  · rename_i hl
    refine ⟨by rw [l, sizeLine_eq]; omega, fun p hp => ?_⟩
    cases e : frzs ts with
    | none => simp only [e] at k; exact k.elim
    | some q =>
      obtain ⟨b, ds⟩ := q
      cases b with
      | true => simp only [e] at k; exact k.elim
      | false =>
        simp only [e] at k
        obtain ⟨w1, xs, A1, S1, ex, rd⟩ := S.freezes (by simpa using l) e
        have ex' : vs = xs := by
          have := congrArg (fun l => l.filterMap id) ex
          simpa using this
        subst ex'
        obtain ⟨A2, S2⟩ := S1.newL rd.false hp
        exact k w1 _ _ (A1.trans A2) S2
  · exact k.elim⟩

/-! items and slices -/
def D.flat : D → Bool
  | .non | .bl _ | .int _ | .str _ | .ty _ => true
  | _ => false
def itm (b : Bool) (d : D) : T := .imm (b && !d.flat) d
theorem RD.flat {A A' : Addr → Prop} : ∀ {d : D} {v : V}, d.flat = true → RD C H A d v → RD C H A' d v
  | .non, _, _, r => r
  | .bl _, _, _, r => r
  | .int _, _, _, r => r
  | .str _, _, _, r => r
  | .ty _, _, _, r => r
theorem Stt.cons_itm {b : Bool} {d : D} {y : V} (h : Stt C w H ρ σ) (r : RD C H (w.im b) d y) : Stt C w H (itm b d :: ρ) (some y :: σ) := by
  unfold itm
  by_cases hf : d.flat = true
  · rw [hf]
    simp only [Bool.not_true, Bool.and_false]
    exact h.cons_imm (r.flat hf)
  · have hf : d.flat = false := by simpa using hf
    rw [hf]
    simp only [Bool.not_false, Bool.and_true]
    exact h.cons_imm r
def gIx (b : Bool) (x : D) (i : Int) : Option T := match x with
  | .lst ds => (atI ds i).map (itm b)
  | .tup ds => (atI ds i).map (itm b)
  | .scr ns => (atI ns i).map fun n => .imm false (.int n)
  | .str s => if s.length ≤ sizeLine then (atI s.cps.toList i).map fun c => .imm false (.str ⟨#[c]⟩) else none
  | _ => none
def fIx : T → T → DE := fun x y ρ => match x, y with
  | .imm b d, .imm _ (.int i) => match gIx b d i with
    | some t => .ok t ρ
    | none => .bad
  | _, _ => .bad
theorem atI_len {α β : Type} {xs : List α} {ys : List β} {i : Int} {a : α} (l : xs.length = ys.length) (h : atI xs i = some a) : ∃ j : Nat, xs[j]? = some a ∧ atI ys i = ys[j]? := by
  unfold atI at h ⊢
  rw [← l]
  cases e : ixN xs.length i with
  | none => rw [e] at h; cases h
  | some j =>
    rw [e] at h
    exact ⟨j, h, rfl⟩
theorem RDs.atI {A : Addr → Prop} {ds : List D} {vs : List V} {i : Int} {d : D} (r : RDs C H A ds vs) (h : atI ds i = some d) : ∃ v, L2.atI vs i = some v ∧ RD C H A d v := by
  obtain ⟨j, h1, h2⟩ := atI_len r.length h
  obtain ⟨v, hv, rv⟩ := r.get h1
  exact ⟨v, by rw [h2]; exact hv, rv⟩
theorem ixS {b : Bool} {d : D} {i : Int} {y : V} {τ : T} {Q : VK} (S : Stt C w H ρ σ) (r : RD C H (w.im b) d y) (e : gIx b d i = some τ) (k : ∀ z, Stt C w H (τ :: ρ) (some z :: σ) → Q z H) : rIx C.K y (.int i) H Q := by
  unfold gIx at e
  cases d with
  | lst ds =>
    obtain ⟨a, vs, rfl, ⟨l1, l2⟩, rd⟩ := r
    simp only at e
    cases q : atI ds i with
    | none => rw [q] at e; cases e
    | some d =>
      rw [q] at e
      cases e
      obtain ⟨z, hz, rz⟩ := rd.atI q
      exact .inl ⟨a, vs, i, z, rfl, rfl, .of l2, hz, k z (S.cons_itm rz)⟩
  | tup ds =>
    obtain ⟨a, vs, rfl, ⟨l1, l2⟩, rd⟩ := r
    simp only at e
    cases q : atI ds i with
    | none => rw [q] at e; cases e
    | some d =>
      rw [q] at e
      cases e
      obtain ⟨z, hz, rz⟩ := rd.atI q
      exact .inr (.inl ⟨a, vs, i, z, rfl, rfl, .of l2, hz, k z (S.cons_itm rz)⟩)
  | scr ns =>
    obtain ⟨a, rfl, la⟩ := r
    simp only at e
    cases q : atI ns i with
    | none => rw [q] at e; cases e
    | some n =>
      rw [q] at e
      cases e
      obtain ⟨j, h1, h2⟩ := atI_len (ys := ns.map V.int) (by simp) q
      exact .inl ⟨a, _, i, .int n, rfl, rfl, la.sq, by rw [h2, List.getElem?_map, h1]; rfl, k _ (S.cons_imm rfl)⟩
  | str s =>
    have r : y = .str s := r
    simp only at e
    split at e
    · rename_i hl
      cases q : atI s.cps.toList i with
      | none => rw [q] at e; cases e
      | some c =>
        rw [q] at e
        cases e
        exact .inr (.inr ⟨s, i, c, r, rfl, hl, q, k _ (S.cons_imm rfl)⟩)
    · cases e
  | _ => cases e
theorem se_ix {a b : Expr} {da db : DE} {pos : Pos} (ha : SE X ca W a da) (hb : SE X ca W b db) (hs : PlainIx b := by exact fun _ _ => rfl) : SE X ca W (.Subscript a b pos) (d2 fIx da db) := ⟨PE.imp (pe_ix ix_seq ha.pe hb.pe hs) fun σ H Q q => two q fun w H x y ρ v u S k => by
  unfold fIx at k
  split at k
  · rename_i b d c i
    obtain ⟨x', ex, r1⟩ := S.head_imm
    cases ex
    have e2 := S.drop.head_int
    subst e2
    cases e : gIx b d i with
    | none => simp only [e] at k; exact k.elim
    | some τ =>
      simp only [e] at k
      exact ixS (C := ⟨X.K, ca⟩) S.drop.drop r1 e fun z S' => k w H z .refl S'
  · exact k.elim⟩
/-! slices -/
abbrev DO := List T → ER (Option Int)
def kO (C : Ct) (W : WX) (w : Wd) (H : Hp) (σ : L2.St) (Q : Option Int → Hp → Prop) : ER (Option Int) → Prop
  | .ok o ρ' => ∀ w' H', After w H w' H' → Stt C w' H' ρ' σ → Q o H'
  | .exc e ρ' => ∀ w' H' cls dx, After w H w' H' → Stt C w' H' ρ' σ → ExAt C w'.I H' e cls dx → W cls dx σ H'
  | .bad => False
def tO (C : Ct) (W : WX) (d : DO) : TO := fun σ H Q => ∃ w ρ, Stt C w H ρ σ ∧ kO C W w H σ Q (d ρ)
structure SO (X : Cx) (ca : Cad) (W : WX) (e : Option Expr) (d : DO) : Prop where
  po : PO X e (tO ⟨X.K, ca⟩ W d)
theorem PO.imp {X : Cx} {e : Option Expr} {t t' : TO} (h : PO X e t) (i : ∀ σ H Q, t' σ H Q → t σ H Q) : PO X e t' := ⟨fun pins s σ H Q I q => h.run pins s σ H Q I (i σ H Q q)⟩
def doNone : DO := fun ρ => .ok none ρ
def doSome (d : DE) : DO := fun ρ => (d ρ).bind fun x ρ1 => match x with
  | .imm _ (.int i) => .ok (some i) ρ1
  | _ => .bad
theorem so_none : SO X ca W none doNone := ⟨PO.imp po_none fun σ H Q h => by
  obtain ⟨w, ρ, S, k⟩ := h
  exact k w H .refl S⟩
theorem so_some {e : Expr} {d : DE} (h : SE X ca W e d) : SO X ca W (some e) (doSome d) := ⟨PO.imp (po_some h.pe) fun σ H Q q => by
  obtain ⟨w, ρ, S, k⟩ := q
  refine ⟨w, ρ, S, ?_⟩
  unfold doSome at k
  cases e : d ρ with
  | bad => simp only [e] at k; exact k
  | exc x ρ1 => simp only [e] at k; exact k
  | ok x ρ1 =>
    simp only [e, ER.bind] at k
    intro w1 H1 v A1 S1
    split at k
    · have ev := S1.head_int
      exact ⟨_, ev, k w1 H1 A1 S1.drop⟩
    · exact k.elim⟩
def cutD {α : Type} (xs : List α) (lo hi : Option Int) : List α := (xs.drop (HT.sIx xs.length 0 lo)).take (HT.sIx xs.length xs.length hi - HT.sIx xs.length 0 lo)
def fSl (x : T) (lo hi : Option Int) (ρ : List T) : ER T := match x with
  | .imm false (.lst ds) => .ok (.lstI (cutD ds lo hi)) ρ
  | .imm _ (.scr ns) => .ok (.lstI ((cutD ns lo hi).map D.int)) ρ
  | .imm b (.tup ds) => .ok (.imm b (.tup (cutD ds lo hi))) ρ
  | .imm _ (.str s) => if s.length ≤ sizeLine then .ok (.imm false (.str (cutS s lo hi))) ρ else .bad
  | _ => .bad
def dSl (da : DE) (dl dh : DO) : DE := fun ρ => (da ρ).bind fun x ρ1 => (dl ρ1).bind fun l ρ2 => (dh ρ2).bind fun h ρ3 => fSl x l h ρ3
theorem cutD_rd {A : Addr → Prop} {ds : List D} {vs : List V} {lo hi : Option Int} (r : RDs C H A ds vs) : RDs C H A (cutD ds lo hi) (cutV vs lo hi) := by
  unfold cutD cutV
  rw [r.length]
  exact RDs.take _ (RDs.drop _ r)
theorem asideO {x : T} {y : V} {Q : VK} {dl : DO} {g : Option Int → List T → ER T} {R : Option Int → Hp → Prop} (S : Stt C w H (x :: ρ) (some y :: σ)) (k : kE C W w H σ Q ((dl ρ).bind g))
    (hr : ∀ w' H' o ρ', Stt C w' H' (x :: ρ') (some y :: σ) → kE C W w' H' σ Q (g o ρ') → R o H') : tO C W dl σ H R := by
  obtain ⟨wt, eI, eB, S1, back⟩ := S.push
  refine ⟨wt, ρ, S1, ?_⟩
  cases ha : dl ρ with
  | bad => rw [ha] at k; exact k
  | exc e ρ1 =>
    rw [ha] at k
    intro w2 H2 cls dx A2 S2 x2
    obtain ⟨w3, e3, A3, S3⟩ := back _ _ _ _ A2 S2
    exact k w3 H2 cls dx A3 S3.drop (x2.I e3)
  | ok o ρ1 =>
    rw [ha] at k
    intro w2 H2 A2 S2
    obtain ⟨w3, e3, A3, S3⟩ := back _ _ _ _ A2 S2
    exact hr w3 H2 o ρ1 S3 (kE.after A3 k)
def rSlX (K : PySem.W.Frag) : V → Option Int → Option Int → Hp → VK → Prop := fun x lo hi H Q => rSlL K x lo hi H Q ∨ (rSlA K x lo hi H Q ∨ rSlS x lo hi H Q)
theorem slS {x : T} {y : V} {l h : Option Int} {Q : VK} (S : Stt C w H (x :: ρ) (some y :: σ)) (k : kE C W w H σ Q (fSl x l h ρ)) : rSlX C.K y l h H Q := by
  unfold fSl at k
  split at k
  · obtain ⟨x', ex, a, vs, rfl, ⟨l1, l2⟩, rd⟩ := S.head_imm
    cases ex
    refine .inl ⟨a, vs, rfl, .of l2, fun p hp => ?_⟩
    obtain ⟨A, S'⟩ := S.drop.newL (cutD_rd (lo := l) (hi := h) rd.false) hp
    exact k w _ _ A S'
  · rename_i b ns
    obtain ⟨x', ex, a, rfl, la⟩ := S.head_imm
    cases ex
    refine .inl ⟨a, _, rfl, la.sq, fun p hp => ?_⟩
    have e2 : cutV (ns.map V.int) l h = (cutD ns l h).map V.int := by
      unfold cutV cutD
      rw [List.length_map, ← List.map_drop, ← List.map_take]
    rw [e2]
    obtain ⟨A, S'⟩ := S.drop.newL (.of_ints (cutD ns l h)) hp
    exact k w _ _ A S'
  · rename_i b ds
    obtain ⟨x', ex, a, vs, rfl, ⟨l1, l2⟩, rd⟩ := S.head_imm
    cases ex
    refine .inr (.inl ⟨a, vs, rfl, .of l2, fun hw => ?_, fun hw p hp => ?_⟩)
    · have ec : cutD ds l h = ds := by
        unfold cutD
        rw [rd.length, hw.1, hw.2, List.drop_zero, Nat.sub_zero, ← rd.length, List.take_length]
      rw [ec] at k
      exact k w H _ .refl S
    · obtain ⟨w', A, S'⟩ := S.drop.newT (cutD_rd (lo := l) (hi := h) rd) hp
      exact k w' _ _ A S'
  · rename_i b s
    obtain ⟨x', ex, r⟩ := S.head_imm
    cases ex
    split at k
    · rename_i hs
      exact .inr (.inr ⟨s, r, hs, k w H _ .refl (S.drop.cons_imm rfl)⟩)
    · exact k.elim
  · exact k.elim
theorem se_slice {e : Expr} {lo hi : Option Expr} {da : DE} {dl dh : DO} {pos p2 : Pos} (he : SE X ca W e da) (hl : SO X ca W lo dl) (hh : SO X ca W hi dh) : SE X ca W (.Subscript e (.Slice lo hi none p2) pos) (dSl da dl dh) :=
  ⟨PE.imp (pe_slice (r := rSlX X.K) (sl_list.or (sl_tupA.or sl_str)) he.pe hl.po hh.po) fun σ H Q q =>
    one (r := fun v H1 Q => tO _ W dl σ H1 fun l H2 => tO _ W dh σ H2 fun u H3 => rSlX X.K v l u H3 Q) q fun w H x ρ v S k =>
      asideO (g := fun l ρ2 => (dh ρ2).bind fun h ρ3 => fSl x l h ρ3) S k fun w H l ρ S k =>
        asideO (g := fun h ρ3 => fSl x l h ρ3) S k fun w H h ρ S k => slS S k⟩
end
end Gb

namespace Gb
open PySem PySem.Spec L2
section
variable {C : Ct} {W : WX} {pn ch : List Nat} {w w' : Wd} {H H' : Hp} {σ σ' : L2.St} {En : Ends} {X : Cx} {ca : Cad} {ρ : List T} {t u : T} {v x : Option V}
/-! built-in functions -/
def CalS (X : Cx) (ca : Cad) (W : WX) (fv : Value) (f : List T → List T → ER T) : Prop :=
  ∃ r : List V → Hp → VK → Prop, CallR X fv r ∧ ∀ w H σ Q ts ρ vs, vs.length = ts.length → Stt ⟨X.K, ca⟩ w H (ts ++ ρ) (vs.map some ++ σ) → kE ⟨X.K, ca⟩ W w H σ Q (f ts ρ) → r vs H Q
def dBi (f : List T → List T → ER T) (da : DA) : DE := fun ρ => (da ρ).bind f
theorem se_bi {x : Str} {id : String} {f : List T → List T → ER T} {e : Expr} {es : List Expr} {da : DA} {p pos : Pos} (o : CalS X ca W (.builtin id) f) (hm : X.mg x = none) (hv : bootBuiltins x = some (.builtin id)) (ha : SA X ca W (e :: es) da) (hg : Gl X x := by rfl)
    (hn : x ≠ "__name__" := by decide) (hdb : (x == ("__debug__" : Str)) = false := by decide) (he : starEach (e :: es) X.env = (false, eval e X.env) :: starEach es X.env := by rfl) (hpl : (backTo pos (starEach es X.env)).any (·.1) = false := by rfl) :
    SE X ca W (.Call (.Name x p) (e :: es) [] pos) (dBi f da) := by
  obtain ⟨r, hr, h⟩ := o
  exact ⟨PE.imp (pe_callB hr hg hm hv ha.pa hn hdb he hpl) fun σ H Q q => exA q fun w H ts ρ vs l S k => h w H σ Q ts ρ vs l S k⟩
theorem se_bt {x : Str} {id : String} {f : List T → List T → ER T} {e : Expr} {es : List Expr} {da : DA} {p pos : Pos} (o : CalS X ca W (.type id) f) (hm : X.mg x = none) (hv : bootBuiltins x = some (.type id)) (ha : SA X ca W (e :: es) da) (hg : Gl X x := by rfl)
    (hn : x ≠ "__name__" := by decide) (hdb : (x == ("__debug__" : Str)) = false := by decide) (he : starEach (e :: es) X.env = (false, eval e X.env) :: starEach es X.env := by rfl) (hpl : (backTo pos (starEach es X.env)).any (·.1) = false := by rfl) :
    SE X ca W (.Call (.Name x p) (e :: es) [] pos) (dBi f da) := by
  obtain ⟨r, hr, h⟩ := o
  exact ⟨PE.imp (pe_callTy hr hg hm hv ha.pa hn hdb he hpl) fun σ H Q q => exA q fun w H ts ρ vs l S k => h w H σ Q ts ρ vs l S k⟩
theorem arg1 {a : T} {ρ : List T} {vs : List V} (l : vs.length = [a].length) (S : Stt C w H ([a] ++ ρ) (vs.map some ++ σ)) : ∃ v, vs = [v] ∧ Stt C w H (a :: ρ) (some v :: σ) := by
  obtain ⟨v, rfl⟩ := vs1 l
  exact ⟨v, rfl, S⟩
theorem arg2 {a b : T} {ρ : List T} {vs : List V} (l : vs.length = [a, b].length) (S : Stt C w H ([a, b] ++ ρ) (vs.map some ++ σ)) : ∃ v u, vs = [v, u] ∧ Stt C w H (a :: b :: ρ) (some v :: some u :: σ) := by
  obtain ⟨v, u, rfl⟩ := vs2 l
  exact ⟨v, u, rfl, S⟩
theorem Stt.head_rd {b : Bool} {d : D} {v : V} (S : Stt C w H (.imm b d :: ρ) (some v :: σ)) : RD C H (w.im b) d v := by
  obtain ⟨x, ex, r⟩ := S.head_imm
  cases ex
  exact r

def D.len? : D → Option Nat
  | .lst ds => some ds.length
  | .tup ds => some ds.length
  | .scr ns => some ns.length
  | .str s => if s.length ≤ sizeLine then some s.length else none
  | .non | .bl _ | .int _ | .ty _ | .dic _ _ | .obj _ _ _ | .exn _ _ _ _ => none
theorem RD.len {A : Addr → Prop} : ∀ {d : D} {v : V} {n : Nat}, RD C H A d v → d.len? = some n → LenV C.K v H n
  | .lst ds, v, n, r, e => by
    obtain ⟨a, vs, rfl, ⟨l1, l2⟩, rd⟩ := r
    cases e
    exact .inl ⟨vs, .of l2, rd.length⟩
  | .tup ds, v, n, r, e => by
    obtain ⟨a, vs, rfl, ⟨l1, l2⟩, rd⟩ := r
    cases e
    exact .inr ⟨vs, .of l2, rd.length⟩
  | .scr ds, v, n, r, e => by
    obtain ⟨a, rfl, la⟩ := r
    cases e
    exact .inl ⟨_, la.sq, by simp⟩
  | .str ds, v, n, r, e => by
    have r : v = .str ds := r
    subst r
    have e : (if ds.length ≤ sizeLine then some ds.length else none) = some n := e
    split at e
    · rename_i h
      cases e
      exact ⟨h, rfl⟩
    · cases e
  | .non, _, _, _, e => by cases e
  | .bl _, _, _, _, e => by cases e
  | .int _, _, _, _, e => by cases e
  | .ty _, _, _, _, e => by cases e
  | .dic _ _, _, _, _, e => by cases e
  | .obj _ _ _, _, _, _, e => by cases e
  | .exn _ _ _ _, _, _, _, e => by cases e
def fLen : List T → List T → ER T := fun ts ρ => match ts with
  | [.imm _ d] => match d.len? with
    | some n => .ok (.imm false (.int n)) ρ
    | none => .bad
  | _ => .bad
theorem cs_len : CalS X ca W (.builtin "len") fLen := ⟨_, call_len, fun w H σ Q ts ρ vs l S k => by
  unfold fLen at k
  split at k
  · rename_i b d
    obtain ⟨v, rfl, S'⟩ := arg1 l S
    split at k
    · rename_i n hn
      exact ⟨v, n, rfl, S'.head_rd.len hn, k w H _ .refl (S'.drop.cons_imm rfl)⟩
    · exact k.elim
  · exact k.elim⟩
/-- f of ints, an int -/
def fAbs : List T → List T → ER T := fun ts ρ => match ts with
  | [.imm _ (.int i)] => .ok (.imm false (.int (if i < 0 then -i else i))) ρ
  | _ => .bad
def D.bools : List D → Option (List Bool)
  | [] => some []
  | .bl b :: ds => match D.bools ds with
    | some bs => some (b :: bs)
    | none => none
  | _ :: _ => none
def D.ints : List D → Option (List Int)
  | [] => some []
  | .int i :: ds => match D.ints ds with
    | some bs => some (i :: bs)
    | none => none
  | _ :: _ => none
@[simp] theorem bools_map : ∀ bs : List Bool, D.bools (bs.map D.bl) = some bs
  | [] => rfl
  | b :: bs => by simp [D.bools, bools_map bs]
@[simp] theorem ints_map : ∀ bs : List Int, D.ints (bs.map D.int) = some bs
  | [] => rfl
  | b :: bs => by simp [D.ints, ints_map bs]
theorem bools_inv : ∀ {ds : List D} {bs : List Bool}, D.bools ds = some bs → ds = bs.map D.bl
  | [], bs, h => by cases h; rfl
  | d :: ds, bs, h => by
    unfold D.bools at h
    split at h
    · cases ‹_ :: _ = []›
    · rename_i b ds' e
      cases e
      split at h
      · rename_i bs' e'
        cases h
        rw [bools_inv e']; rfl
      · cases h
    · cases h
theorem ints_inv : ∀ {ds : List D} {bs : List Int}, D.ints ds = some bs → ds = bs.map D.int
  | [], bs, h => by cases h; rfl
  | d :: ds, bs, h => by
    unfold D.ints at h
    split at h
    · cases ‹_ :: _ = []›
    · rename_i b ds' e
      cases e
      split at h
      · rename_i bs' e'
        cases h
        rw [ints_inv e']; rfl
      · cases h
    · cases h
theorem RDs.bls {A : Addr → Prop} : ∀ {bs : List Bool} {vs : List V}, RDs C H A (bs.map D.bl) vs → vs = bs.map V.bl
  | [], vs, h => h
  | n :: ns, vs, h => by
    obtain ⟨v, r, rfl, h1, h2⟩ := h
    have e : v = .bl n := h1
    rw [e, RDs.bls h2]; rfl
/-- a list (or the script) of ints -/
def D.intList : D → Option (List Int)
  | .lst ds => D.ints ds
  | .scr ns => some ns
  | _ => none
theorem RD.intList {A : Addr → Prop} {d : D} {v : V} {ns : List Int} (r : RD C H A d v) (e : d.intList = some ns) : ∃ a, v = .ref a ∧ SqL C.K H a (ns.map V.int) := by
  unfold D.intList at e
  split at e
  · obtain ⟨a, vs, rfl, ⟨l1, l2⟩, rd⟩ := r
    have q := ints_inv e
    subst q
    have q := rd.ints
    subst q
    exact ⟨a, rfl, .of l2⟩
  · obtain ⟨a, rfl, la⟩ := r
    cases e
    exact ⟨a, rfl, la.sq⟩
  · cases e
def fBools (g : List Bool → Bool) : List T → List T → ER T := fun ts ρ => match ts with
  | [.imm _ (.lst ds)] => match D.bools ds with
    | some bs => .ok (.imm false (.bl (g bs))) ρ
    | none => .bad
  | _ => .bad
theorem bls_at {b : Bool} {ds : List D} {bs : List Bool} {v : V} (S : Stt C w H (.imm b (.lst ds) :: ρ) (some v :: σ)) (h : D.bools ds = some bs) : ∃ a, v = .ref a ∧ SqL C.K H a (bs.map V.bl) := by
  obtain ⟨a, vs, rfl, ⟨l1, l2⟩, rd⟩ := S.head_rd
  have e := bools_inv h
  subst e
  have e := rd.bls
  subst e
  exact ⟨a, rfl, .of l2⟩
theorem cs_all (hc : X.calm = true) : CalS X ca W (.builtin "all") (fBools fun bs => bs.all id) := ⟨_, cr_all hc, fun w H σ Q ts ρ vs l S k => by
  unfold fBools at k
  split at k
  · obtain ⟨v, rfl, S'⟩ := arg1 l S
    split at k
    · rename_i bs hb
      obtain ⟨a, rfl, q⟩ := bls_at S' hb
      exact ⟨a, bs, rfl, q, k w H _ .refl (S'.drop.cons_imm rfl)⟩
    · exact k.elim
  · exact k.elim⟩
def fSum : List T → List T → ER T := fun ts ρ => match ts with
  | [.imm _ d] => match d.intList with
    | some ns => .ok (.imm false (.int ns.sum)) ρ
    | none => .bad
  | _ => .bad
def maxZ : List Int → Option Int
  | [] => none
  | [i] => some i
  | i :: j :: is => match maxZ (j :: is) with
    | some m => some (if m ≤ i then i else m)
    | none => none
def minZ : List Int → Option Int
  | [] => none
  | [i] => some i
  | i :: j :: is => match minZ (j :: is) with
    | some m => some (if i ≤ m then i else m)
    | none => none
def fMax : List T → List T → ER T := fun ts ρ => match ts with
  | [.imm _ (.int i), .imm _ (.int j)] => .ok (.imm false (.int (max i j))) ρ
  | [.imm _ d] => match d.intList with
    | some ns => match maxZ ns with
      | some m => .ok (.imm false (.int m)) ρ
      | none => .bad
    | none => .bad
  | _ => .bad
def fMin : List T → List T → ER T := fun ts ρ => match ts with
  | [.imm _ (.int i), .imm _ (.int j)] => .ok (.imm false (.int (min i j))) ρ
  | [.imm _ d] => match d.intList with
    | some ns => match minZ ns with
      | some m => .ok (.imm false (.int m)) ρ
      | none => .bad
    | none => .bad
  | _ => .bad
theorem RDs.allflat {A A' : Addr → Prop} : ∀ {ds : List D} {vs : List V}, ds.all D.flat = true → RDs C H A ds vs → RDs C H A' ds vs
  | [], _, _, r => r
  | d :: ds, _, h, r => by
    obtain ⟨v, r, rfl, h1, h2⟩ := r
    rw [List.all_cons, Bool.and_eq_true] at h
    exact ⟨v, r, rfl, h1.flat h.1, RDs.allflat h.2 h2⟩
/-- list(x), tuple(x) -/
def fList : List T → List T → ER T := fun ts ρ => match ts with
  | [.imm false (.lst ds)] => .ok (.lstI ds) ρ
  | [.imm false (.tup ds)] => .ok (.lstI ds) ρ
  | [.imm _ (.scr ns)] => .ok (.lstI (ns.map D.int)) ρ
  | [.imm true (.tup ds)] => if ds.all D.flat = true then .ok (.lstI ds) ρ else .bad
  | _ => .bad
theorem cs_list : CalS X ca W (.type "list") fList := ⟨_, call_list_of, fun w H σ Q ts ρ vs l S k => by
  unfold fList at k
  split at k
  · obtain ⟨v, rfl, S'⟩ := arg1 l S
    obtain ⟨a, vs, rfl, ⟨l1, l2⟩, rd⟩ := S'.head_rd
    refine ⟨a, vs, rfl, .inl (.of l2), fun p hp => ?_⟩
    obtain ⟨A, S2⟩ := S'.drop.newL rd.false hp
    exact k w _ _ A S2
  · obtain ⟨v, rfl, S'⟩ := arg1 l S
    obtain ⟨a, vs, rfl, ⟨l1, l2⟩, rd⟩ := S'.head_rd
    refine ⟨a, vs, rfl, .inr (.of l2), fun p hp => ?_⟩
    obtain ⟨A, S2⟩ := S'.drop.newL rd.false hp
    exact k w _ _ A S2
  · obtain ⟨v, rfl, S'⟩ := arg1 l S
    obtain ⟨a, rfl, la⟩ := S'.head_rd
    refine ⟨a, _, rfl, .inl la.sq, fun p hp => ?_⟩
    obtain ⟨A, S2⟩ := S'.drop.newL (.of_ints _) hp
    exact k w _ _ A S2
  · split at k
    · rename_i hf
      obtain ⟨v, rfl, S'⟩ := arg1 l S
      obtain ⟨a, vs, rfl, ⟨l1, l2⟩, rd⟩ := S'.head_rd
      refine ⟨a, vs, rfl, .inr (.of l2), fun p hp => ?_⟩
      obtain ⟨A, S2⟩ := S'.drop.newL (rd.allflat hf) hp
      exact k w _ _ A S2
    · exact k.elim
  · exact k.elim⟩
def bfl (b : Bool) (ds : List D) : Bool := b && !ds.all D.flat
theorem RDs.bfl {b : Bool} {ds : List D} {vs : List V} (r : RDs C H (w.im b) ds vs) : RDs C H (w.im (bfl b ds)) ds vs := by
  unfold Gb.bfl
  cases hf : ds.all D.flat with
  | true => exact r.allflat hf
  | false => simpa using r
def fTuple : List T → List T → ER T := fun ts ρ => match ts with
  | [.imm b (.lst ds)] => .ok (.imm (bfl b ds) (.tup ds)) ρ
  | [.imm b (.tup ds)] => .ok (.imm b (.tup ds)) ρ
  | _ => .bad
theorem cs_tuple : CalS X ca W (.type "tuple") fTuple := ⟨_, call_tuple_of, fun w H σ Q ts ρ vs l S k => by
  unfold fTuple at k
  split at k
  · obtain ⟨v, rfl, S'⟩ := arg1 l S
    obtain ⟨a, vs, rfl, ⟨l1, l2⟩, rd⟩ := S'.head_rd
    refine ⟨a, vs, rfl, .inl ⟨.of l2, fun p hp => ?_⟩⟩
    obtain ⟨w', A, S2⟩ := S'.drop.newT rd.bfl hp
    exact k w' _ _ A S2
  · obtain ⟨v, rfl, S'⟩ := arg1 l S
    obtain ⟨a, vs, rfl, ⟨l1, l2⟩, rd⟩ := S'.head_rd
    exact ⟨a, vs, rfl, .inr ⟨.of l2, k w H _ .refl S'⟩⟩
  · exact k.elim⟩
def fInt : List T → List T → ER T := fun ts ρ => match ts with
  | [.imm _ (.int i)] => .ok (.imm false (.int i)) ρ
  | [.imm _ (.bl b)] => .ok (.imm false (.int (if b then 1 else 0))) ρ
  | [.imm _ (.str s)] => match PySem.intText? s with
    | some n => if s.length ≤ 640 then .ok (.imm false (.int n)) ρ else .bad
    | none => .bad
  | _ => .bad
theorem cs_int : CalS X ca W (.type "int") fInt := ⟨_, call_int1.or call_int_str, fun w H σ Q ts ρ vs l S k => by
  unfold fInt at k
  split at k
  · obtain ⟨v, rfl, S'⟩ := arg1 l S
    exact .inl (.inl ⟨_, by rw [S'.head_int], k w H _ .refl (S'.drop.cons_imm rfl)⟩)
  · obtain ⟨v, rfl, S'⟩ := arg1 l S
    have r := S'.head_rd
    exact .inl (.inr ⟨_, by rw [show v = .bl _ from r], k w H _ .refl (S'.drop.cons_imm rfl)⟩)
  · obtain ⟨v, rfl, S'⟩ := arg1 l S
    have r := S'.head_rd
    split at k
    · rename_i n hn
      split at k
      · rename_i hl
        exact .inr ⟨_, n, by rw [show v = .str _ from r], hn, hl, k w H _ .refl (S'.drop.cons_imm rfl)⟩
      · exact k.elim
    · exact k.elim
  · exact k.elim⟩
def fStr : List T → List T → ER T := fun ts ρ => match ts with
  | [.imm _ (.int i)] => if i.natAbs.log2 < 1920 then .ok (.imm false (.str (toString i))) ρ else .bad
  | _ => .bad
theorem cs_str : CalS X ca W (.type "str") fStr := ⟨_, call_str_int, fun w H σ Q ts ρ vs l S k => by
  unfold fStr at k
  split at k
  · obtain ⟨v, rfl, S'⟩ := arg1 l S
    split at k
    · rename_i h
      exact ⟨_, by rw [S'.head_int], h, k w H _ .refl (S'.drop.cons_imm rfl)⟩
    · exact k.elim
  · exact k.elim⟩
/-! isinstance -/
def D.kind : D → Option String
  | .non => some "NoneType"
  | .bl _ => some "bool"
  | .int _ => some "int"
  | .str _ => some "str"
  | .lst _ => some "list"
  | .tup _ => some "tuple"
  | .dic _ _ => some "dict"
  | .scr _ | .ty _ | .obj _ _ _ | .exn _ _ _ _ => none
def isB (t n : String) : Option Bool := match t, n with
  | "int", "int" | "bool", "int" | "bool", "bool" | "str", "str" | "list", "list" | "tuple", "tuple" | "dict", "dict" => some true
  | "NoneType", "int" | "NoneType", "bool" | "NoneType", "str" | "NoneType", "list" | "NoneType", "tuple" | "NoneType", "dict" => some false
  | "bool", "str" | "bool", "list" | "bool", "tuple" | "bool", "dict" => some false
  | "int", "bool" | "int", "str" | "int", "list" | "int", "tuple" | "int", "dict" => some false
  | "str", "int" | "str", "bool" | "str", "list" | "str", "tuple" | "str", "dict" => some false
  | "list", "int" | "list", "bool" | "list", "str" | "list", "tuple" | "list", "dict" => some false
  | "tuple", "int" | "tuple", "bool" | "tuple", "str" | "tuple", "list" | "tuple", "dict" => some false
  | "dict", "int" | "dict", "bool" | "dict", "str" | "dict", "list" | "dict", "tuple" => some false
  | _, _ => none
theorem isB_kit {t n : String} {b : Bool} (h : isB t n = some b) : kitB t n = some b := by
  unfold isB at h
  split at h <;> cases h <;> decide +kernel
theorem RD.kind {A : Addr → Prop} : ∀ {d : D} {v : V} {t : String}, RD C H A d v → d.kind = some t → TyX C.K H v (.type t)
  | .non, v, t, r, e => by cases e; cases (show v = .non from r); exact .base .non
  | .bl _, v, t, r, e => by cases e; cases (show v = .bl _ from r); exact .base (.bl _)
  | .int _, v, t, r, e => by cases e; cases (show v = .int _ from r); exact .base (.int _)
  | .str _, v, t, r, e => by cases e; cases (show v = .str _ from r); exact .base (.str _)
  | .lst _, v, t, r, e => by
    obtain ⟨a, vs, rfl, ⟨l1, l2⟩, rd⟩ := r
    cases e; exact .base (.lst l2)
  | .tup _, v, t, r, e => by
    obtain ⟨a, vs, rfl, ⟨l1, l2⟩, rd⟩ := r
    cases e; exact .base (.tup l2)
  | .dic _ _, v, t, r, e => by
    obtain ⟨a, kvs, rfl, l1, l2, _⟩ := r
    cases e
    rcases l2 with l2 | ⟨o, l2⟩
    · exact .base (.dK l2)
    · exact .fDict l2
  | .scr _, _, _, _, e => by cases e
  | .ty _, _, _, _, e => by cases e
  | .obj _ _ _, _, _, _, e => by cases e
  | .exn _ _ _ _, _, _, _, e => by cases e
/-- isinstance(x, T) or isinstance(x, (T, ..)) with built-in classes -/
def isIn (t : String) : List D → Option Bool
  | [] => some false
  | .ty n :: cs => match isB t n with
    | some true => if cs.all (fun c => match c with | .ty _ => true | _ => false) then some true else none
    | some false => isIn t cs
    | none => none
  | _ :: _ => none
def fIsi : List T → List T → ER T := fun ts ρ => match ts with
  | [.imm _ d, .imm _ (.ty n)] => match d.kind with
    | some t => match isB t n with
      | some b => .ok (.imm false (.bl b)) ρ
      | none => .bad
    | none => .bad
  | [.imm _ d, .imm _ (.tup cs)] => match d.kind with
    | some t => match isIn t cs with
      | some b => .ok (.imm false (.bl b)) ρ
      | none => .bad
    | none => .bad
  | _ => .bad
theorem isIn_kit {A : Addr → Prop} {t : String} : ∀ {cs : List D} {vs : List V} {b : Bool}, RDs C H A cs vs → isIn t cs = some b → ∃ us, Paired ClsV vs us ∧ PySem.W.kitAny C.K (.type t) us = some b
  | [], vs, b, r, e => by
    cases (show vs = [] from r)
    cases e
    exact ⟨[], .nil, rfl⟩
  | c :: cs, vs, b, r, e => by
    obtain ⟨v, vr, rfl, h1, h2⟩ := r
    unfold isIn at e
    split at e
    · cases ‹_ :: _ = []›
    · rename_i n cs' ec
      cases ec
      cases (show v = .ty n from h1)
      split at e
      · rename_i hb
        split at e
        case isFalse => cases e
        rename_i hb2
        cases e
        -- the rest doesn't matter, but its classes must be there
        have aux : ∀ (cs : List D) (vs : List V), RDs C H A cs vs → (∀ c ∈ cs, ∃ n, c = .ty n) → ∃ us, Paired ClsV vs us := by
          intro cs
          induction cs with
          | nil => intro vs r _; cases (show vs = [] from r); exact ⟨[], .nil⟩
          | cons c cs ih =>
            intro vs r hc
            obtain ⟨v, vr, rfl, h1, h2⟩ := r
            obtain ⟨n, rfl⟩ := hc c (by simp)
            cases (show v = .ty n from h1)
            obtain ⟨us, hu⟩ := ih vr h2 fun c hm => hc c (by simp [hm])
            exact ⟨_ :: us, .cons (.ty n) hu⟩
        have hall : ∀ c ∈ cs, ∃ n, c = .ty n := fun c hm => by
          have q := List.all_eq_true.mp hb2 c hm
          cases c <;> first | exact ⟨_, rfl⟩ | cases q
        obtain ⟨us, hu⟩ := aux cs vr h2 hall
        exact ⟨.type n :: us, .cons (.ty n) hu, kitAny_cons (kit_ty (isB_kit hb)) (fun z => by cases z) fun _ => rfl⟩
      · rename_i hb
        obtain ⟨us, hu, hk⟩ := isIn_kit h2 e
        exact ⟨.type n :: us, .cons (.ty n) hu, kitAny_cons (kit_ty (isB_kit hb)) (fun _ => hk) fun z => by cases z⟩
      · cases e
    · cases e
theorem cs_isi : CalS X ca W (.builtin "isinstance") fIsi := ⟨_, call_isi.or call_isiT, fun w H σ Q ts ρ vs l S k => by
  unfold fIsi at k
  split at k
  · rename_i b d c n
    obtain ⟨v, u, rfl, S'⟩ := arg2 l S
    split at k
    · rename_i t ht
      split at k
      · rename_i r hr
        have e : u = .ty n := S'.drop.head_rd
        subst e
        exact .inl ⟨v, .ty n, .type t, .type n, r, rfl, .ty n, S'.head_rd.kind ht, kit_ty (isB_kit hr), k w H _ .refl (S'.drop.drop.cons_imm rfl)⟩
      · exact k.elim
    · exact k.elim
  · rename_i b d c cs
    obtain ⟨v, u, rfl, S'⟩ := arg2 l S
    split at k
    · rename_i t ht
      split at k
      · rename_i r hr
        obtain ⟨a, us, rfl, ⟨l1, l2⟩, rd⟩ := S'.drop.head_rd
        obtain ⟨us', hp, hk⟩ := isIn_kit rd hr
        exact .inr ⟨v, a, us, .type t, us', r, rfl, l2, hp, S'.head_rd.kind ht, hk, k w H _ .refl (S'.drop.drop.cons_imm rfl)⟩
      · exact k.elim
    · exact k.elim
  · exact k.elim⟩
/-- a built-in class as a value -/
theorem se_bty {x : Str} {n : String} {pos : Pos} (hm : X.mg x = none) (hv : bootBuiltins x = some (.type n)) (hg : Gl X x := by rfl) (hn : x ≠ "__name__" := by decide) (hd : (x == ("__debug__" : Str)) = false := by decide) : SE X ca W (.Name x pos) (dC (.ty n)) :=
  ⟨PE.imp (pe_bltn (v := .ty n) hg hm hv rfl hn hd) fun σ H Q h => constE h fun _ _ => rfl⟩
end
end Gb

namespace Gb
open PySem PySem.Spec L2
section
variable {C : Ct} {W : WX} {pn ch : List Nat} {w w' : Wd} {H H' : Hp} {σ σ' : L2.St} {En : Ends} {X : Cx} {ca : Cad} {ρ : List T} {t u : T} {v x : Option V}
/-! a name's own list, changed -/
/-- the list in slot i is put otherwise -/
theorem Stt.wrAt {i : Nat} {ds ds' : List D} {vs' : List V} {p : Addr} (S : Stt C w H ρ σ) (e : ρ[i]? = some (.lstI ds)) (hv : σ[i]? = some (some (.ref p))) (r : RDs C H w.I ds' vs') :
    After w H w (upd H p (.lst vs')) ∧ Stt C w (upd H p (.lst vs')) (ρ.set i (.lstI ds')) σ := by
  obtain ⟨v, hv', S1⟩ := S.move e
  rw [hv] at hv'
  cases hv'
  obtain ⟨A, S2⟩ := S1.wr r
  refine ⟨A, ?_⟩
  have hi : i < ρ.length := (List.getElem?_eq_some_iff.mp e).1
  have S3 := S2.put (i := i) (by rw [List.length_set]; exact hi)
  rw [List.set_set, set_same hv] at S3
  exact S3
theorem Stt.atI {i : Nat} {ds : List D} (S : Stt C w H ρ σ) (e : ρ[i]? = some (.lstI ds)) : ∃ p vs, σ[i]? = some (some (.ref p)) ∧ H p = some (.lst vs) ∧ RDs C H w.I ds vs := by
  obtain ⟨v, hv', S1⟩ := S.move e
  obtain ⟨p, vs, rfl, hp, rd⟩ := S1.head_lstI
  exact ⟨p, vs, hv', hp, rd⟩
def dAppend (i : Nat) (de : DE) : DE := fun ρ => match ρ[i]? with
  | some (.lstI _) => (de ρ).bind fun t ρ1 => match ρ1[i]?, t.frz with
    | some (.lstI ds), some (false, d) => if ds.length < 16777216 then .ok (.imm false .non) (ρ1.set i (.lstI (ds ++ [d]))) else .bad
    | _, _ => .bad
  | _ => .bad
theorem asideM {i : Nat} {de : DE} {R : V → Hp → Prop} {Q : VK} {g : T → List T → ER T} (S : Stt C w H ρ σ) (k : kE C W w H σ Q ((de ρ).bind g))
    (hr : ∀ w' H' t ρ' v, Stt C w' H' (t :: ρ') (some v :: σ) → kE C W w' H' σ Q (g t ρ') → R v H') : tE C W de σ H R := by
  refine ⟨w, ρ, S, ?_⟩
  cases e : de ρ with
  | bad => rw [e] at k; exact k
  | exc x ρ1 => rw [e] at k; exact k
  | ok x ρ1 =>
    rw [e] at k
    exact fun w1 H1 v A1 S1 => hr w1 H1 x ρ1 v S1 (kE.after A1 k)
theorem se_append (i : Nat) {x : Str} {e : Expr} {de : DE} {px apos cpos : Pos} (he : SE X ca W e de) (hN : X.N[i]? = some x := by rfl) (hv : Vis X.env.scope x := by first | exact Or.inl rfl | exact Or.inr (Or.inl rfl) | exact Or.inr (Or.inr rfl))
    (hd : (x == ("__debug__" : Str)) = false := by decide) (hcd : (x == ("__classdict__" : Str)) = false := by decide) (hbase : attributeBase (.Name x px) "append" X.env (eval (.Name x px) X.env) = eval (.Name x px) X.env := by rfl)
    (hfew : ((backTo cpos (starEach (e :: []) X.env)).all (fun x => !x.1) && (backToKw cpos (keywordEach [] X.env)).all (fun x => x.1.isSome) && decide ((e :: ([] : List Expr)).length + ([] : List Keyword).length + (if ([] : List Keyword).isEmpty then 0 else 1) < 30)) = true := by rfl)
    (hline : (apos.endLine == cpos.line) = true := by rfl) (hs : starEach (e :: []) X.env = (false, eval e X.env) :: starEach [] X.env := by rfl) (hplain : (backTo cpos (starEach [] X.env)).any (·.1) = false := by rfl) :
    SE X ca W (.Call (.Attribute (.Name x px) "append" apos) [e] [] cpos) (dAppend i de) :=
  ⟨PE.imp (pe_bm PySem.F.plainAttrs_list PySem.F.slot_list_append PySem.F.type_list_append mt_append (pe_var hN hv hd hcd) (pa_cons he.pe pa_nil hs) hbase hfew hline hs hplain) fun σ H Q q => by
    obtain ⟨w, ρ, S, k⟩ := q
    unfold dAppend at k
    split at k
    · rename_i ds0 e0
      obtain ⟨p, vs, hp, hH, rd⟩ := S.atI e0
      refine ⟨_, hp, .inl ⟨rfl, vs, .of hH⟩, asideM (i := i) S k fun w1 H1 t ρ1 v S1 k1 => ?_⟩
      split at k1
      · rename_i ds d e1 ef
        split at k1
        · rename_i hl
          obtain ⟨w2, A2, S2⟩ := S1.freeze ef
          have ry := S2.head_rd.false
          obtain ⟨p', vs1, hp', hH1, rd1⟩ := S2.drop.atI e1
          rw [hp] at hp'
          cases hp'
          refine ⟨p, vs1, v, rfl, rfl, hH1, by rw [← rd1.length, sizeLine_eq]; exact hl, ?_⟩
          obtain ⟨A3, S3⟩ := S2.drop.wrAt e1 hp (rd1.append (show RDs _ H1 w2.I [d] [v] from ⟨v, [], rfl, ry, rfl⟩))
          exact k1 w2 _ .non (A2.trans A3) (S3.cons_imm rfl)
        · exact k1.elim
      · exact k1.elim
    · exact k.elim⟩
def dExtend (i : Nat) (de : DE) : DE := fun ρ => match ρ[i]? with
  | some (.lstI _) => (de ρ).bind fun t ρ1 => match ρ1[i]?, t.frz with
    | some (.lstI ds), some (false, .lst es) => if ds.length + es.length ≤ 16777216 then .ok (.imm false .non) (ρ1.set i (.lstI (ds ++ es))) else .bad
    | _, _ => .bad
  | _ => .bad
def dPop (i : Nat) : DE := fun ρ => match ρ[i]? with
  | some (.lstI ds) => match ds.getLast? with
    | some d => .ok (.imm false d) (ρ.set i (.lstI ds.dropLast))
    | none => .bad
  | _ => .bad
theorem RDs.dropLast {A : Addr → Prop} {ds : List D} {vs : List V} (r : RDs C H A ds vs) : RDs C H A ds.dropLast vs.dropLast := by
  rw [List.dropLast_eq_take, List.dropLast_eq_take, ← r.length]
  exact RDs.take _ r
def dClear (i : Nat) : DE := fun ρ => match ρ[i]? with
  | some (.lstI _) => .ok (.imm false .non) (ρ.set i (.lstI []))
  | _ => .bad
/-- name[k] = e -/
def dSetIx (i : Nat) (dk de : DE) : DS := dEx de fun t ρ1 => match ρ1[i]?, t.frz with
  | some (.lstI _), some (false, d) => match dk ρ1 with
    | .ok (.imm _ (.int k)) ρ2 => match ρ2[i]? with
      | some (.lstI ds) => match ixN ds.length k with
        | some j => .next (ρ2.set i (.lstI (ds.set j d)))
        | none => .bad
      | _ => .bad
    | _ => .bad
  | _, _ => .bad
/-! a name's own list, looked at -/
def dLenV (i : Nat) : DE := fun ρ => match ρ[i]? with
  | some (.lstI ds) => .ok (.imm false (.int ds.length)) ρ
  | some (.imm _ d) => match d.len? with
    | some n => .ok (.imm false (.int n)) ρ
    | none => .bad
  | some (.lst ts) => .ok (.imm false (.int ts.length)) ρ
  | _ => .bad
theorem se_lenV (i : Nat) {x : Str} {px p pos : Pos} (hm : X.mg "len" = none) (hg : Gl X "len" := by rfl) (hN : X.N[i]? = some x := by rfl) (hv : Vis X.env.scope x := by first | exact Or.inl rfl | exact Or.inr (Or.inl rfl) | exact Or.inr (Or.inr rfl))
    (hd : (x == ("__debug__" : Str)) = false := by decide) (hcd : (x == ("__classdict__" : Str)) = false := by decide) (he : starEach [.Name x px] X.env = (false, eval (.Name x px) X.env) :: starEach [] X.env := by rfl) (hpl : (backTo pos (starEach [] X.env)).any (·.1) = false := by rfl) :
    SE X ca W (.Call (.Name "len" p) [.Name x px] [] pos) (dLenV i) :=
  ⟨PE.imp (pe_callB call_len hg hm PySem.boot_len (pa_cons (pe_var hN hv hd hcd) pa_nil he) (by decide) (by decide) he hpl) fun σ H Q q => by
    obtain ⟨w, ρ, S, k⟩ := q
    unfold dLenV at k
    split at k
    · rename_i ds e0
      obtain ⟨p, vs, hp, hH, rd⟩ := S.atI e0
      exact ⟨_, hp, _, ds.length, rfl, .inl ⟨vs, .of hH, rd.length⟩, k w H _ .refl (S.cons_imm rfl)⟩
    · rename_i b d e0
      obtain ⟨v, hv', S1⟩ := S.move e0
      obtain ⟨y, rfl, r⟩ := S1.head_imm
      split at k
      · rename_i n hn
        exact ⟨_, hv', _, n, rfl, r.len hn, k w H _ .refl (S.cons_imm rfl)⟩
      · exact k.elim
    · rename_i ts e0
      obtain ⟨v, hv', S1⟩ := S.move e0
      obtain ⟨F, ⟨v0, r0, f1, f2, e, ⟨a, vs, f, e3, g, rd, rfl⟩, h2, rfl⟩, nd, out, tr, tb⟩ := S1
      injection e with e1 e2
      subst e1; subst e3
      exact ⟨_, hv', _, ts.length, rfl, .inl ⟨vs, .of g, by rw [rd.length, List.length_map]⟩, k w H _ .refl (S.cons_imm rfl)⟩
    · exact k.elim⟩
def dIxV (i : Nat) (db : DE) : DE := fun ρ => match ρ[i]? with
  | some (.lstI _) => (db ρ).bind fun y ρ1 => match ρ1[i]?, y with
    | some (.lstI ds), .imm _ (.int k) => match L2.atI ds k with
      | some d => .ok (.imm false d) ρ1
      | none => .bad
    | _, _ => .bad
  | some (.imm _ _) => (db ρ).bind fun y ρ1 => match ρ1[i]?, y with
    | some (.imm b d), .imm _ (.int k) => match gIx b d k with
      | some t => .ok t ρ1
      | none => .bad
    | _, _ => .bad
  | _ => .bad
theorem se_ixV (i : Nat) {x : Str} {b : Expr} {db : DE} {px pos : Pos} (hb : SE X ca W b db) (hs : PlainIx b := by exact fun _ _ => rfl) (hN : X.N[i]? = some x := by rfl) (hv : Vis X.env.scope x := by first | exact Or.inl rfl | exact Or.inr (Or.inl rfl) | exact Or.inr (Or.inr rfl))
    (hd : (x == ("__debug__" : Str)) = false := by decide) (hcd : (x == ("__classdict__" : Str)) = false := by decide) : SE X ca W (.Subscript (.Name x px) b pos) (dIxV i db) :=
  ⟨PE.imp (pe_ix ix_seq (pe_var hN hv hd hcd) hb.pe hs) fun σ H Q q => by
    obtain ⟨w, ρ, S, k⟩ := q
    unfold dIxV at k
    split at k
    · rename_i ds0 e0
      obtain ⟨p, vs, hp, hH, rd⟩ := S.atI e0
      refine ⟨_, hp, asideM (i := i) S k fun w1 H1 t ρ1 v S1 k1 => ?_⟩
      split at k1
      · rename_i ds b kk e1
        have ev := S1.head_int
        subst ev
        split at k1
        · rename_i d hd'
          obtain ⟨p', vs1, hp', hH1, rd1⟩ := S1.drop.atI e1
          rw [hp] at hp'
          cases hp'
          obtain ⟨z, hz, rz⟩ := rd1.atI hd'
          exact .inl ⟨p, vs1, kk, z, rfl, rfl, .of hH1, hz, k1 w1 H1 z .refl (S1.drop.cons_imm (RD_mono (fun a z => ⟨.inl z, rfl⟩) _ _ rz))⟩
        · exact k1.elim
      · exact k1.elim
    · rename_i b0 d0 e0
      obtain ⟨v0, hv0, S0⟩ := S.move e0
      obtain ⟨y0, rfl, r0⟩ := S0.head_imm
      refine ⟨_, hv0, asideM (i := i) S k fun w1 H1 t ρ1 v S1 k1 => ?_⟩
      split at k1
      · rename_i b d c kk e1
        have ev := S1.head_int
        subst ev
        split at k1
        · rename_i τ hτ
          obtain ⟨v1, hv1, S2⟩ := S1.drop.move e1
          rw [hv0] at hv1
          cases hv1
          exact ixS (C := ⟨X.K, ca⟩) S1.drop S2.head_rd hτ fun z S' => k1 w1 H1 z .refl S'
        · exact k1.elim
      · exact k1.elim
    · exact k.elim⟩
/-! comprehensions as values, and given to a name -/
theorem se_lc {elt tg iter : Expr} {ifs : List Expr} {scope : Scope} {own : List (Str × Nat)} {pos : Pos} {dg : DG} {di : DI} {dt : DT} {de : DE} (hc : X.calm = true) (hi : SI X ca W tg iter di) (B : Blk X ca scope own ch tg elt ifs dg dt de)
    (hs : ∀ x, foldedSetIterable iter X.env x = pure x := by intro _; rfl) : SE X ca W (.ListComp elt [⟨tg, iter, ifs, 0⟩] scope pos) (dLc (own.map (·.2)) dg di dt de) :=
  ⟨PE.imp (pe_lc hc B.nd hi.pi B.ok (fun s H C cl fp => (B.g s H C cl fp).pg) (fun s H C cl fp => (B.t s H C cl fp).pts) (fun s H C cl fp => (B.e s H C cl fp).pe) hs) fun σ H Q q => lcT B.ch q⟩
theorem ss_setLc {i : Nat} {y : Str} {py : Pos} {elt tg iter : Expr} {ifs : List Expr} {scope : Scope} {own : List (Str × Nat)} {pos spos : Pos} {dg : DG} {di : DI} {dt : DT} {de : DE} (hc : X.calm = true) (hi : SI X ca W tg iter di) (B : Blk X ca scope own ch tg elt ifs dg dt de)
    (hy : X.N[i]? = some y := by rfl) (hyl : X.env.scope.names.lookup y = some .local := by rfl) (hk : X.env.scope.kind = .function := by rfl) (hl : (py.line == pos.line) = true := by rfl) (ha : (scope.names.any fun (n, k) => n == y && (k == .local || k == .cell)) = false := by decide +kernel) (hp : i ∉ pn := by decide)
    (hs : ∀ x, foldedSetIterable iter X.env x = pure x := by intro _; rfl) : SS X ca W pn (.Assign [.Name y py] (.ListComp elt [⟨tg, iter, ifs, 0⟩] scope pos) spos) (dSet i (dLc (own.map (·.2)) dg di dt de)) :=
  ⟨PS.impL (ps_setLc hc B.nd hy hyl (sw_true hk hyl hl ha) hi.pi B.ok (fun s H C cl fp => (B.g s H C cl fp).pg) (fun s H C cl fp => (B.t s H C cl fp).pts) (fun s H C cl fp => (B.e s H C cl fp).pe) hs) fun En σ H l q =>
    show tLc _ _ _ _ _ σ H (fun x H1 => gName i x σ H1 En.nx) from lcT (W := W) B.ch (setS q (by rw [l]; exact (List.getElem?_eq_some_iff.mp hy).1) hp)⟩
/-! reversed, enumerate, zip -/
def revItems : T → List T → ER (Bool × List D)
  | .imm b (.lst ds), ρ => .ok (b, ds.reverse) ρ
  | .imm b (.tup ds), ρ => .ok (b, ds.reverse) ρ
  | _, _ => .bad
def diRev (de : DE) : DI := fun ρ => (de ρ).bind revItems
end
end Gb

namespace Gb
open PySem PySem.Spec L2
open PyProof.Rows (envOfC)
section
variable {C : Ct} {W : WX} {pn ch : List Nat} {w w' : Wd} {H H' : Hp} {σ σ' : L2.St} {En : Ends} {X : Cx} {ca : Cad} {ρ : List T} {t u : T} {v x : Option V}
theorem takes_WF {X : Cx} : Takes X WF := fun u s' ⟨_, _, _, _, _, _, _, _, _, _, _, _, _, _, _, _, w⟩ => w.elim
/-! what is never reached -/
theorem fn_bad {P : Program} {wd : World} {K : PySem.W.Frag} {mg : Str → Option Value} {base : Heap} {CX : CXT} {k : Nat} {f : Addr} {fd : FuncData} {ps : List Str} : FnG P wd K mg base CX k f fd ps (spF C fun _ => .bad) :=
  ⟨fun _ _ _ _ ⟨_, _, _, z⟩ => z.elim, fun _ _ _ _ _ _ _ _ _ _ _ _ _ ⟨_, _, _, z⟩ => z.elim⟩
end
theorem Cal.mk0 {P : Program} {wd : World} {K : PySem.W.Frag} {mg : Str → Option Value} {base : Heap} {ca : Cad} {k : Nat} {x qual : Str} {st : Stmt} {f : Addr} {fd : FuncData} {ps : List Str} {Fn : FnT} (F : Fun K x qual st f fd)
    (ok : FnG P wd K mg base (L2.CX P wd) k f fd ps (spF ⟨K, ca⟩ Fn)) (hm : mg x = some (.ref f)) (b : Binds K fd ps []) : Cal P wd K mg base ca k x [] Fn :=
  ⟨⟨f, fd, ps, [], [], ok, hm, F.kp, b, .nil, fun _ _ => rfl⟩⟩
/-- the law's def answers True -/
def LawTrue (Fn : FnT) : Prop := ∀ ns : List Int, ns.length ≤ 63 → ∃ b, Fn [.imm false (.scr ns)] = .ok (.imm b (.bl true))
theorem law_walk {l : PySem.W.OpenLaw} {k : Nat} {q : Program} {loose : List Str} {XP : (Str → Option Value) → Heap → Prop} {YP : World → Heap → Prop} {d : DefRec} {Kp : Params → PySem.W.Frag} {ca : Cad} {x : Str} {Fn : FnT}
    (main : LawTrue Fn) (hT0 : ca.T = []) (hn : l.most = some 63) (hdf : d.params.defaults = []) (hr : Room k callerA) (hY : ∀ (w : World) (h : Heap), YP w h → (Kp w.params).In h)
    (F : ∀ (w : World) (mg : Str → Option Value) (fa : Addr) (h : Heap), (Kp w.params).In h → h.Ns mainGlobals mg → mg d.name = some (.ref fa) →
      ∃ fd : FuncData, (∀ (s : Shared) (u : Value), BindsTo s fd ⟨[u], []⟩ [(x, u)]) ∧
        ∀ base : Heap, (Kp w.params).In base → base.Ns mainGlobals mg → FnG l.prog w (Kp w.params) mg base (L2.CX l.prog w) k fa fd [x] (spF ⟨Kp w.params, ca⟩ Fn)) :
    PySem.W.WalkO q loose XP YP l.row.toRowW d [] (fun f vs => PySem.call f vs) := by
  refine walk_ofG (K := Kp) (CX := fun w => L2.CX l.prog w) (sp := fun w => spF ⟨Kp w.params, ca⟩ Fn) hn (by decide) hdf ⟨hr, rfl⟩ hY F (fun w H a ns hl hO hS => ?_) (fun w H s e s' h => ?_)
  · obtain ⟨b, e⟩ := main ns hl
    refine ⟨⟨fun z => z = a ∧ noT (H z) = true, fun _ => False, fun _ => False⟩, [.imm false (.scr ns)], ⟨[], ⟨some (.ref a), [], [], [], rfl, ⟨.ref a, rfl, ⟨a, rfl, ?_⟩, rfl⟩, ⟨rfl, rfl⟩, rfl⟩, by simp, fun z hz => by simp at hz, fun z hz => ?_, by show LamX.Tabs ca.T H; rw [hT0]; exact fun p hp => absurd hp (by simp)⟩, ?_⟩
    · rcases hS with hS | hS
      · refine .inl ⟨.inl ⟨rfl, ?_⟩, hS⟩
        rcases hS with hS | ⟨o, hS⟩
        · rw [hS]; rfl
        · rw [hS]; rfl
      · exact .inr hS
    · rcases hz with ⟨_, z2⟩ | z | z
      · exact z2
      · exact z.elim
      · exact z.elim
    · rw [e]
      intro w' H' v A S
      obtain ⟨y, ey, r⟩ := S.head_imm
      cases ey
      exact r
  · obtain ⟨_, _, _, _, _, _, _, _, _, _, _, _, z⟩ := h
    exact z
end Gb

namespace Gb
open PySem PySem.Spec L2

abbrev oSub : T → T → DE := fS (gInt fun i j => some (i - j))
abbrev oDiv : T → T → DE := fS (gInt divI)
abbrev oMod : T → T → DE := fS (gInt modI)
abbrev oPow : T → T → DE := fS (gInt powI)
abbrev oShl : T → T → DE := fS (gInt shlI)
abbrev oShr : T → T → DE := fS (gInt shrI)
abbrev oAnd : T → T → DE := fS (gInt fun i j => some (Builtin.bitAnd i j))
abbrev oOr : T → T → DE := fS (gInt fun i j => some (Builtin.bitOr i j))
abbrev oEq : T → T → DE := fS gEq
abbrev oNe : T → T → DE := fS gNe
abbrev oLt : T → T → DE := fS (gCmp fun i j => decide (i < j))
abbrev oLe : T → T → DE := fS (gCmp fun i j => decide (i ≤ j))
abbrev oGt : T → T → DE := fS (gCmp fun i j => decide (j < i))
abbrev oIs : T → T → DE := fS gIs
abbrev oIsNot : T → T → DE := fS gIsNot
/-! plain laws about what is denoted: loops -/
section
variable {dg : DG} {body : DS} {b : Bool} {P : Nat → List T → Prop}
/-- one turn of a for loop that goes on -/
def Goes (dg : DG) (body : DS) (b : Bool) (d : D) (ρ : List T) (R : List T → Prop) : Prop := ∃ ρ1 ρ2, dg (.imm b d) ρ = some ρ1 ∧ (body ρ1 = .next ρ2 ∨ body ρ1 = .cont ρ2) ∧ R ρ2
theorem forL_at : ∀ (ds : List D) (k : Nat) (ρ : List T), P k ρ → (∀ (i : Nat) (d : D) (ρ : List T), ds[i]? = some d → P (k + i) ρ → Goes dg body b d ρ (P (k + i + 1))) → ∃ ρ', forL dg body b ds ρ = .next ρ' ∧ P (k + ds.length) ρ'
  | [], k, ρ, h, _ => ⟨ρ, rfl, h⟩
  | d :: ds, k, ρ, h, hs => by
    obtain ⟨ρ1, ρ2, e1, e2, h2⟩ := hs 0 d ρ rfl h
    obtain ⟨ρ', e3, h3⟩ := forL_at ds (k + 1) ρ2 h2 fun i d ρ hd hp => by
      have q := hs (i + 1) d ρ (by simpa using hd) (by rw [show k + (i + 1) = k + 1 + i by omega]; exact hp)
      rw [show k + (i + 1) + 1 = k + 1 + i + 1 by omega] at q
      exact q
    refine ⟨ρ', ?_, by rw [List.length_cons, show k + (ds.length + 1) = k + 1 + ds.length by omega]; exact h3⟩
    unfold forL
    simp only [e1]
    rcases e2 with e2 | e2
    · simp only [e2, e3]
    · simp only [e2, e3]
theorem forL_list {ds : List D} {ρ : List T} (h : P 0 ρ) (hs : ∀ (i : Nat) (d : D) (ρ : List T), ds[i]? = some d → P i ρ → Goes dg body b d ρ (P (i + 1))) : ∃ ρ', forL dg body b ds ρ = .next ρ' ∧ P ds.length ρ' := by
  have q := forL_at (dg := dg) (body := body) (b := b) (P := P) ds 0 ρ h fun i d ρ hd hp => by
    simp only [Nat.zero_add] at hp ⊢
    exact hs i d ρ hd hp
  simpa using q
@[simp] theorem rangeD_length {lo : Int} {n : Nat} : (rangeD lo n).length = n := by simp [rangeD]
theorem rangeD_at {lo : Int} {n i : Nat} {d : D} (h : (rangeD lo n)[i]? = some d) : i < n ∧ d = .int (lo + i) := by
  unfold rangeD at h
  rw [List.getElem?_map] at h
  by_cases hi : i < n
  · rw [List.getElem?_range hi] at h
    exact ⟨hi, by simpa using h.symm⟩
  · rw [List.getElem?_eq_none (by simpa using hi)] at h
    simp at h
theorem forL_range {lo : Int} {n : Nat} {ρ : List T} (h : P 0 ρ) (hs : ∀ (i : Nat) (ρ : List T), i < n → P i ρ → Goes dg body b (.int (lo + i)) ρ (P (i + 1))) : ∃ ρ', forL dg body b (rangeD lo n) ρ = .next ρ' ∧ P n ρ' := by
  have q := forL_list (dg := dg) (body := body) (b := b) (P := P) (ds := rangeD lo n) h fun i d ρ hd hp => by
    obtain ⟨hi, rfl⟩ := rangeD_at hd
    exact hs i ρ hi hp
  simpa using q
end
theorem forL_pre {α : Type} {f : α → D} {dg : DG} {body : DS} {b : Bool} {P : List α → List T → Prop} : ∀ (post pre : List α) (ρ : List T), P pre ρ → (∀ (p q : List α) (a : α) (ρ : List T), pre ++ post = p ++ a :: q → P p ρ → Goes dg body b (f a) ρ (P (p ++ [a]))) →
    ∃ ρ', forL dg body b (post.map f) ρ = .next ρ' ∧ P (pre ++ post) ρ'
  | [], pre, ρ, h, _ => ⟨ρ, rfl, by rw [List.append_nil]; exact h⟩
  | a :: post, pre, ρ, h, hs => by
    obtain ⟨ρ1, ρ2, e1, e2, h2⟩ := hs pre post a ρ rfl h
    have ea : pre ++ a :: post = (pre ++ [a]) ++ post := by simp
    obtain ⟨ρ', e3, h3⟩ := forL_pre (f := f) (dg := dg) (body := body) (b := b) post (pre ++ [a]) ρ2 h2 fun p q a ρ e => hs p q a ρ (by rw [ea]; exact e)
    refine ⟨ρ', ?_, by rw [ea]; exact h3⟩
    rw [List.map_cons]
    unfold forL
    simp only [e1]
    rcases e2 with e2 | e2
    · simp only [e2, e3]
    · simp only [e2, e3]
/-- a loop over xs, the items taken so far in the invariant -/
theorem forL_take {α : Type} {f : α → D} {dg : DG} {body : DS} {b : Bool} {P : List α → List T → Prop} {xs : List α} {ρ : List T} (h : P [] ρ) (hs : ∀ (p q : List α) (a : α) (ρ : List T), xs = p ++ a :: q → P p ρ → Goes dg body b (f a) ρ (P (p ++ [a]))) :
    ∃ ρ', forL dg body b (xs.map f) ρ = .next ρ' ∧ P xs ρ' := forL_pre xs [] ρ h hs
/-! comprehensions -/
section
variable {dg : DG} {dt : DT} {de : DE} {own : List Nat} {b : Bool} {P : List T → Prop}
/-- one turn that keeps an item -/
def Makes (dg : DG) (dt : DT) (de : DE) (own : List Nat) (b : Bool) (d e : D) (ρ : List T) (R : List T → Prop) : Prop := ∃ ρ1 ρ2 t ρ3, dg (.imm b d) ρ = some ρ1 ∧ dt ρ1 = .ok true ρ2 ∧ de ρ2 = .ok t ρ3 ∧ t.frz = some (false, e) ∧ R (killL own ρ3)
theorem compL_at {f : Nat → D} : ∀ (ds : List D) (k : Nat) (ρ : List T), P ρ → (∀ (i : Nat) (d : D) (ρ : List T), ds[i]? = some d → P ρ → Makes dg dt de own b d (f (k + i)) ρ P) → ∃ ρ', compL dg dt de own b ds ρ = .ok ((List.range' k ds.length).map f) ρ' ∧ P ρ'
  | [], k, ρ, h, _ => ⟨ρ, rfl, h⟩
  | d :: ds, k, ρ, h, hs => by
    obtain ⟨ρ1, ρ2, t, ρ3, e1, e2, e3, e4, h3⟩ := hs 0 d ρ rfl h
    obtain ⟨ρ', e5, h5⟩ := compL_at ds (k + 1) _ h3 fun i d ρ hd hp => by
      have q := hs (i + 1) d ρ (by simpa using hd) hp
      rw [show k + (i + 1) = k + 1 + i by omega] at q
      exact q
    refine ⟨ρ', ?_, h5⟩
    unfold compL
    simp only [e1, e2, e3, e4, e5, List.length_cons, List.range'_succ, List.map_cons, Nat.add_zero]
theorem compL_range {lo : Int} {n : Nat} {f : Nat → D} {ρ : List T} (h : P ρ) (hs : ∀ (i : Nat) (ρ : List T), i < n → P ρ → Makes dg dt de own b (.int (lo + i)) (f i) ρ P) : ∃ ρ', compL dg dt de own b (rangeD lo n) ρ = .ok ((List.range n).map f) ρ' ∧ P ρ' := by
  have q := compL_at (f := f) (dg := dg) (dt := dt) (de := de) (own := own) (b := b) (P := P) (rangeD lo n) 0 ρ h fun i d ρ hd hp => by
    obtain ⟨hi, rfl⟩ := rangeD_at hd
    rw [Nat.zero_add]
    exact hs i ρ hi hp
  rw [rangeD_length, ← List.range_eq_range'] at q
  exact q
theorem compL_mapf {α : Type} {f g : α → D} : ∀ (xs : List α) (ρ : List T), P ρ → (∀ (a : α) (ρ : List T), a ∈ xs → P ρ → Makes dg dt de own b (f a) (g a) ρ P) → ∃ ρ', compL dg dt de own b (xs.map f) ρ = .ok (xs.map g) ρ' ∧ P ρ'
  | [], ρ, h, _ => ⟨ρ, rfl, h⟩
  | a :: xs, ρ, h, hs => by
    obtain ⟨ρ1, ρ2, t, ρ3, e1, e2, e3, e4, h3⟩ := hs a ρ (by simp) h
    obtain ⟨ρ', e5, h5⟩ := compL_mapf xs _ h3 fun a ρ ha => hs a ρ (by simp [ha])
    refine ⟨ρ', ?_, h5⟩
    rw [List.map_cons, List.map_cons]
    unfold compL
    simp only [e1, e2, e3, e4, e5]
end
/-! values -/
mutual
/-- plain data, lists and tuples at most n deep in one another -/
def D.pl : D → Nat → Bool
  | .non, _ => true
  | .bl _, _ => true
  | .int _, _ => true
  | .str s, _ => PyData.strOk s
  | .lst xs, n => match n with
    | 0 => false
    | m + 1 => decide (xs.length < 16777216) && D.pls xs m
  | .tup xs, n => match n with
    | 0 => false
    | m + 1 => decide (xs.length < 16777216) && D.pls xs m
  | .scr _, _ => false
  | .ty _, _ => false
  | .dic _ _, _ => false
  | .obj _ _ _, _ => false
  | .exn _ _ _ _, _ => false
def D.pls : List D → Nat → Bool
  | [], _ => true
  | d :: ds, n => d.pl n && D.pls ds n
end
@[simp] theorem shaped_int (i : Int) : SeqAt.shaped (.int i) = true := by simp [SeqAt.shaped, PyData.canLay0, PyData.depth]
@[simp] theorem shaped_none : SeqAt.shaped .none = true := by simp [SeqAt.shaped, PyData.canLay0, PyData.depth]
@[simp] theorem shaped_bool (b : Bool) : SeqAt.shaped (.bool b) = true := by simp [SeqAt.shaped, PyData.canLay0, PyData.depth]
@[simp] theorem eqv_int (i j : Int) : D.eqv (.int i) (.int j) = some (decide (i = j)) := by
  simp [D.eqv, D.py, PyData.eqv]
  by_cases h : i = j
  · simp [h]
  · simp [h]
@[simp] theorem eqv_non_int (j : Int) : D.eqv .non (.int j) = some false := by simp [D.eqv, D.py, PyData.eqv]
@[simp] theorem eqv_int_non (j : Int) : D.eqv (.int j) .non = some false := by simp [D.eqv, D.py, PyData.eqv]
@[simp] theorem eqv_non : D.eqv .non .non = some true := by simp [D.eqv, D.py, PyData.eqv]
@[simp] theorem eqv_bl (a b : Bool) : D.eqv (.bl a) (.bl b) = some (a == b) := by simp [D.eqv, D.py, PyData.eqv]
end Gb

namespace Gb
open PySem PySem.Spec L2
/-! a name's own thing, lent for an expression -/
mutual
def noB : T → Bool
  | .dead => true
  | .imm b _ => !b
  | .lstI _ => true
  | .lst ts => noBs ts
  | .dicI _ _ => true
  | .dic _ _ => true
  | .obj _ _ ts => noBs ts
def noBs : List T → Bool
  | [] => true
  | t :: ts => noB t && noBs ts
end
section
variable {C : Ct} {W : WX} {w w' : Wd} {H H' : Hp} {ρ ρ' : List T} {σ σ' : L2.St} {t : T} {v : Option V}
end
def dLend (i : Nat) (de : DE) : DE := fun ρ => match ρ[i]? with
  | some t => (match t.frz with
    | some (_, d) => (match de (ρ.set i (.imm true d)) with
      | .ok r ρ' => if noBs (r :: ρ'.set i t) && decide (ρ'.length = ρ.length) then .ok r (ρ'.set i t) else .bad
      | .exc e ρ' => if noBs (ρ'.set i t) && decide (ρ'.length = ρ.length) then .exc e (ρ'.set i t) else .bad
      | .bad => .bad)
    | none => .bad)
  | none => .bad
section
variable {C : Ct} {W : WX} {pn ch : List Nat} {w w' : Wd} {H H' : Hp} {σ σ' : L2.St} {En : Ends} {X : Cx} {ca : Cad} {ρ : List T} {t u : T} {v x : Option V}
end
end Gb

namespace Gb
open PySem PySem.Spec L2 PyProof.Rows
/-! list(reversed(a list)) -/
section
variable {prog : Program} {w : World} {A : Around} {E : Value → Shared → Prop} {s : Shared}
end
section
variable {X : Cx} {ca : Cad} {W : WX}
def revk : T → List T → ER T
  | .imm false (.lst ds), ρ => .ok (.lstI ds.reverse) ρ
  | _, _ => .bad
def dLr (de : DE) : DE := d1 revk de
variable {pn : List Nat} {C : Ct} {w : Wd} {H : Hp} {σ : L2.St} {ρ : List T}
def dReverse (i : Nat) : DE := fun ρ => match ρ[i]? with
  | some (.lstI ds) => .ok (.imm false .non) (ρ.set i (.lstI ds.reverse))
  | _ => .bad
def dListV (i : Nat) : DE := fun ρ => match ρ[i]? with
  | some (.lstI ds) => .ok (.lstI ds) ρ
  | _ => .bad
def dtLend (i : Nat) (dt : DT) : DT := fun ρ => match ρ[i]? with
  | some t => (match t.frz with
    | some (_, d) => (match dt (ρ.set i (.imm true d)) with
      | .ok r ρ' => if noBs (ρ'.set i t) && decide (ρ'.length = ρ.length) then .ok r (ρ'.set i t) else .bad
      | .exc e ρ' => if noBs (ρ'.set i t) && decide (ρ'.length = ρ.length) then .exc e (ρ'.set i t) else .bad
      | .bad => .bad)
    | none => .bad)
  | none => .bad
end
end Gb

namespace Gb
open PySem PySem.Spec L2
/-! lists of own things -/
section
variable {C : Ct} {W : WX} {pn ch : List Nat} {w w' : Wd} {H H' : Hp} {σ σ' : L2.St} {En : Ends} {X : Cx} {ca : Cad} {ρ : List T} {t u : T} {v x : Option V}
def asO : T → Option (List T)
  | .lst ts => some ts
  | .lstI [] => some []
  | _ => none
theorem Stt.backO {i : Nat} {t' : T} (S : Stt C w H (t' :: ρ.set i .dead) (v :: σ)) (hv : σ[i]? = some v) (hi : i < ρ.length) : Stt C w H (ρ.set i t') σ := by
  have S3 := S.put (i := i) (by rw [List.length_set]; exact hi)
  rw [List.set_set, set_same hv] at S3
  exact S3
/-- name.append(e), a list of own things -/
def pushk (i : Nat) (t : T) (ρ1 : List T) : ER T := match (ρ1[i]?).bind asO with
  | some ts => if ts.length < 16777216 then .ok (.imm false .non) (ρ1.set i (.lst (ts ++ [t]))) else .bad
  | none => .bad
def dAppendO (i : Nat) (de : DE) : DE := fun ρ => match (ρ[i]?).bind asO with
  | some _ => (de ρ).bind (pushk i)
  | none => .bad
theorem Stt.swap (h : Stt C w H (t :: u :: ρ) (v :: x :: σ)) : Stt C w H (u :: t :: ρ) (x :: v :: σ) := by
  obtain ⟨F, ⟨v0, r, f1, f2, e, h1, ⟨v1, r1, g1, g2, e', h3, h4, rfl⟩, rfl⟩, nd, out, tr, tb⟩ := h
  injection e with e1 e2
  subst e1; subst e2
  injection e' with e1 e2
  subst e1; subst e2
  have pm : (g1 ++ (f1 ++ g2)).Perm (f1 ++ (g1 ++ g2)) := List.perm_append_comm_assoc g1 f1 g2
  exact ⟨g1 ++ (f1 ++ g2), ⟨_, _, g1, f1 ++ g2, rfl, h3, ⟨_, _, f1, g2, rfl, h1, h4, rfl⟩, rfl⟩, pm.nodup_iff.mpr nd, fun b hb => out b (pm.mem_iff.mp hb), tr, tb⟩
/-- name.pop(), a list of own things -/
def popk2 (i : Nat) (ρ : List T) : Option (List T) → ER T
  | some ts => match ts.getLast? with
    | some t => .ok t (ρ.set i (.lst ts.dropLast))
    | none => .bad
  | none => .bad
def dPopO (i : Nat) : DE := fun ρ => popk2 i ρ ((ρ[i]?).bind asO)
/-- name[j].append(e) -/
def inner (ts : List T) (j : Int) : Option (Nat × List D) := match ixN ts.length j with
  | some jn => match ts[jn]? with
    | some (.lstI ds) => some (jn, ds)
    | _ => none
  | none => none
def app3 (i : Nat) (ts : List T) (jn : Nat) (ds : List D) (t : T) (ρ2 : List T) : ER T := match t.frz with
  | some (false, d) => if ds.length < 16777216 ∧ i < ρ2.length then .ok (.imm false .non) (ρ2.set i (.lst (ts.set jn (.lstI (ds ++ [d]))))) else .bad
  | _ => .bad
def app2 (i : Nat) (de : DE) (y : T) (ρ1 : List T) : ER T := match (ρ1[i]?).bind asO, y with
  | some ts, .imm _ (.int j) => match inner ts j with
    | some (jn, ds) => (de (ρ1.set i .dead)).bind (app3 i ts jn ds)
    | none => .bad
  | _, _ => .bad
def dAppend2 (i : Nat) (dj de : DE) : DE := fun ρ => match (ρ[i]?).bind asO with
  | some _ => (dj ρ).bind (app2 i de)
  | none => .bad
def compLO (dg : DG) (dt : DT) (de : DE) (own : List Nat) (b : Bool) : List D → List T → ER (List T)
  | [], ρ => .ok [] ρ
  | d :: ds, ρ => match dg (.imm b d) ρ with
    | none => .bad
    | some ρ1 => match dt ρ1 with
      | .ok true ρ2 => match de ρ2 with
        | .ok t ρ3 => match compLO dg dt de own b ds (killL own ρ3) with
          | .ok r ρ4 => .ok (t :: r) ρ4
          | _ => .bad
        | _ => .bad
      | .ok false ρ2 => compLO dg dt de own b ds (killL own ρ2)
      | _ => .bad
def dLcO (own : List Nat) (dg : DG) (di : DI) (dt : DT) (de : DE) : DE := fun ρ => match di ρ with
  | .ok p ρ1 => match compLO dg dt de own p.1 p.2 (killL own ρ1) with
    | .ok r ρ2 => .ok (.lst r) (killL own ρ2)
    | _ => .bad
  | .exc e ρ1 => .exc e ρ1
  | .bad => .bad
/-- name[j][k] = e -/
def dSetIx2 (i : Nat) (dj dk de : DE) : DS := dEx de fun t ρ1 => match (ρ1[i]?).bind asO, t.frz with
  | some _, some (false, d) => match dj ρ1 with
    | .ok (.imm _ (.int j)) ρ2 => match (ρ2[i]?).bind asO with
      | some ts => match inner ts j with
        | some (jn, ds) => match dk (ρ2.set i .dead) with
          | .ok (.imm _ (.int k)) ρ3 => match ixN ds.length k with
            | some kn => if i < ρ3.length then .next (ρ3.set i (.lst (ts.set jn (.lstI (ds.set kn d))))) else .bad
            | none => .bad
          | _ => .bad
        | none => .bad
      | none => .bad
    | _ => .bad
  | _, _ => .bad
end
end Gb

namespace Gb
open PySem PySem.Spec L2
open PyProof.Rows (envOfC)
/-! defs with defaults -/
section
variable {P : Program} {wd : World} {K : PySem.W.Frag} {mg : Str → Option Value} {base : Heap} {ca : Cad} {x qual : Str} {st : Stmt} {f : Addr} {fd : FuncData} {N ps : List Str} {dvs : List V}
end
end Gb

namespace Gb
open PySem PySem.Spec L2 PyProof.Rows
/-! tuple(reversed(a tuple)) -/
section
variable {prog : Program} {w : World} {A : Around} {E : Value → Shared → Prop} {s : Shared}
end
section
variable {X : Cx} {ca : Cad} {W : WX}
def tuprk : T → List T → ER T
  | .imm b (.tup ds), ρ => .ok (.imm b (.tup ds.reverse)) ρ
  | _, _ => .bad
def dTr (de : DE) : DE := d1 tuprk de
end
end Gb

namespace Gb
open PySem PySem.Spec L2
/-! a loop over a list of own things that changes them -/
section
variable {C : Ct} {W : WX} {pn ch : List Nat} {w w' : Wd} {H H' : Hp} {σ σ' : L2.St} {En : Ends} {X : Cx} {ca : Cad} {ρ : List T} {t u : T} {v x : Option V}
def backL (i r j : Nat) (ts : List T) (ρ2 : List T) : Option (List T) := match ρ2[r]? with
  | some t' => some ((ρ2.set r .dead).set i (.lst (ts.set j t')))
  | none => none
def forLO (i r : Nat) (body : DS) : Nat → Nat → DS
  | _, 0, ρ => .next ρ
  | j, n + 1, ρ => match (ρ[i]?).bind asO with
    | some ts => match ts[j]? with
      | some t => match body ((ρ.set i .dead).set r t) with
        | .next ρ2 => match backL i r j ts ρ2 with
          | some ρ3 => forLO i r body (j + 1) n ρ3
          | none => .bad
        | .cont ρ2 => match backL i r j ts ρ2 with
          | some ρ3 => forLO i r body (j + 1) n ρ3
          | none => .bad
        | _ => .bad
      | none => .bad
    | none => .bad
def dForO (i r : Nat) (body : DS) : DS := fun ρ => match (ρ[i]?).bind asO with
  | some ts => forLO i r body 0 ts.length ρ
  | none => .bad
end
end Gb

namespace Gb
open PySem PySem.Spec L2
section
variable {C : Ct} {W : WX} {pn ch : List Nat} {w w' : Wd} {H H' : Hp} {σ σ' : L2.St} {En : Ends} {X : Cx} {ca : Cad} {ρ : List T} {t u : T} {v x : Option V}
/-- x.bit_length() -/
def bitk : T → List T → ER T
  | .imm _ (.int i), ρ => .ok (.imm false (.int (Builtin.Int.intBits i : Nat))) ρ
  | _, _ => .bad
def dBitL (de : DE) : DE := d1 bitk de
end
end Gb

namespace Gb
open PySem PySem.Spec L2
section
variable {C : Ct} {W : WX} {pn ch : List Nat} {w w' : Wd} {H H' : Hp} {σ σ' : L2.St} {En : Ends} {X : Cx} {ca : Cad} {ρ : List T} {t u : T} {v x : Option V}
/-! displays of dicts -/
def dDic0 : DE := fun ρ => .ok (.dicI [] []) ρ
def fDic1 : T → T → DE := fun x y ρ => match x, y with
  | .imm _ (.int i), .imm false d => .ok (.dicI [.inl i] [d]) ρ
  | _, _ => .bad
def dDic1 (dk dv : DE) : DE := d2 fDic1 dk dv
/-! exceptions of own classes -/
/-- what the written part says of an own class of exceptions (one without own __init__) -/
structure ExF (K : PySem.W.Frag) (mg : Str → Option Value) (C : Addr) (x : Str) : Prop where
  ex : ∃ B newId initId bmB, ExcBaseFacts B newId initId bmB ∧ PySem.W.excIn K C bmB newId = true
  g : mg x = some (.ref C)
  kp : PySem.W.keepIn K (.ref C) = true
  sub : PySem.W.subIn K (.ref C) (.type "BaseException") = some true
  ty : PySem.W.typeIn K (.ref C) = some (.type "type")
def dRaise (k : Nat) : DS := fun ρ => .exc ⟨k, [], []⟩ ρ
theorem PSs.ex {α : Type} {X : Cx} {sts : List Stmt} {P : α → Prop} {t : α → TS} (h : ∀ a, P a → PSs X sts (t a)) : PSs X sts (fun D σ H => ∃ a, P a ∧ t a D σ H) :=
  ⟨fun pins s σ H D I ⟨a, p, q⟩ => (h a p).run pins s σ H D I q⟩
/-- what an exception is bound to in the suite -/
def exD (a dd : Nat) (e : Ex) : D := .exn a dd e.ns e.vs
/-- try: body / except x as n: suite. r tells of a class whether the clause takes it -/
def trySuite (i : Nat) (ds : Nat → Nat → Ex → DS) (e : Ex) (ρ : List T) : SR := match ds 0 0 e (ρ.set i (.imm false (exD 0 0 e))) with
  | .next ρ1 => .next (ρ1.set i .dead)
  | _ => .bad
open Classical in
noncomputable def dTry (i : Nat) (r : Nat → Option Bool) (db : DS) (ds : Nat → Nat → Ex → DS) : DS := fun ρ => match db ρ with
  | .exc e ρ1 => (match r e.c with
    | some true => if i < ρ1.length ∧ ∀ a dd, ∃ ρ2, ds a dd e (ρ1.set i (.imm false (exD a dd e))) = .next ρ2 ∧ trySuite i ds e ρ1 = .next (ρ2.set i .dead) then trySuite i ds e ρ1 else .bad
    | some false => .exc e ρ1
    | none => .bad)
  | q => q
/-- the class that a clause names -/
def CatchF (K : PySem.W.Frag) (ca : Cad) (c : Value) (r : Nat → Option Bool) : Prop := ∀ k b, r k = some b → PySem.W.exmOne K (.ref (ca k)) c = some b
end
end Gb

namespace PySem.W
open PySem PySem.Spec PySem.Calls PyProof.Rows
section
variable {prog : Program} {w : World} {A : Around} {E : Value → Shared → Prop} {s : Shared} {K : Frag} {x D : Addr} {ox : Obj} {od : Option Obj}
end
end PySem.W
namespace Gb
open PySem PySem.Spec L2
section
variable {C : Ct} {W : WX} {pn ch : List Nat} {w w' : Wd} {H H' : Hp} {σ σ' : L2.St} {En : Ends} {X : Cx} {ca : Cad} {ρ : List T} {t u : T} {v x : Option V}
/-- a class's name -/
structure ClsE (X : Cx) (e : Expr) (c : V) (u : Value) : Prop where
  pe : PE X e (tC c)
  cv : ClsV c u
def tAll (cs : List V) : TA := fun _ H Q => Q cs H
structure ClsEs (X : Cx) (es : List Expr) (cs : List V) (us : List Value) : Prop where
  pa : PA X es (tAll cs)
  cv : Paired ClsV cs us
def anyO : List (Option Bool) → Option Bool
  | [] => some false
  | some true :: _ => some true
  | some false :: r => anyO r
  | none :: _ => none
/-- what isinstance answers of exceptions of each class -/
def IsF (K : PySem.W.Frag) (ca : Cad) (u : Value) (r : Nat → Option Bool) : Prop := ∀ k b, r k = some b → ExcC K (ca k) ∧ PySem.W.kitOne K (.ref (ca k)) u = some b
def dIsE (a dd : Nat) (e : Ex) (i : Nat) (r : Option Bool) : DE := fun ρ => match ρ[i]? with
  | some (.imm b (.exn a' dd' ns vs)) => if b = false ∧ a' = a ∧ dd' = dd ∧ ns = e.ns then (match r with
    | some b => .ok (.imm false (.bl b)) ρ
    | none => .bad) else .bad
  | _ => .bad
/-! e.field -/
def lookF (f : Str) : List Str → List D → Option D
  | n :: ns, d :: ds => if n = f then some d else lookF f ns ds
  | _, _ => none
def dXf (a dd : Nat) (e : Ex) (i : Nat) (f : Str) (ok : Nat → Bool) : DE := fun ρ => match ρ[i]? with
  | some (.imm b (.exn a' dd' ns vs)) => if b = false ∧ a' = a ∧ dd' = dd ∧ ns = e.ns ∧ e.ns ≠ [] ∧ ok e.c = true then (match lookF f ns vs with
    | some d => .ok (.imm false d) ρ
    | none => .bad) else .bad
  | _ => .bad
/-! the facts -/
theorem kit_fact {K : PySem.W.Frag} {D E : Addr} {b : Bool} (sDD : PySem.W.subIn K (.ref D) (.ref D) = some true) (ht : PySem.W.typeIn K (.ref E) = some (.type "type")) (hd : PySem.W.hasDictIn K E = true) (h : PySem.W.subIn K (.ref D) (.ref E) = some b) : PySem.W.kitOne K (.ref D) (.ref E) = some b := by
  unfold PySem.W.kitOne
  by_cases e : D = E
  · subst e
    rw [sDD] at h
    rw [if_pos (by simp)]
    exact h
  · rw [if_neg (by simpa using e)]
    obtain ⟨cd, hc, _⟩ := PySem.W.any_some hd
    show (if ((PySem.W.clsIn K E).isSome && PySem.W.typeIn K (.ref E) == some (.type "type")) = true then PySem.W.subIn K (.ref D) (.ref E) else none) = some b
    rw [if_pos (by rw [hc, ht]; rfl), h]
/-- of exceptions of the classes ks: class 0 is the base of all, 100 ValueError -/
def isT (ks : List Nat) (j k : Nat) : Option Bool := if k ∈ ks then some (j == k || j == 0 || j == 100) else none
theorem isT_cases {ks : List Nat} {j k : Nat} {b : Bool} (h : isT ks j k = some b) : k ∈ ks ∧ some b = some (j == k || j == 0 || j == 100) := by
  unfold isT at h
  split at h
  · rename_i hm
    exact ⟨hm, h.symm⟩
  · cases h
theorem catch_fact {K : PySem.W.Frag} {D E : Addr} {r : Option Bool} {b : Bool} (e : r = some b) (h1 : PySem.W.subIn K (.ref E) (.type "BaseException") = some true) (hd : PySem.W.hasDictIn K E = true) (ht : PySem.W.typeIn K (.ref E) = some (.type "type")) (h4 : PySem.W.subIn K (.ref D) (.ref E) = r) : PySem.W.exmOne K (.ref D) (.ref E) = some b :=
  PySem.W.exm_ref h1 hd ht (h4.trans e)
end
end Gb

namespace Gb
open PySem PySem.Spec L2
section
variable {C : Ct} {W : WX} {pn ch : List Nat} {w w' : Wd} {H H' : Hp} {σ σ' : L2.St} {En : Ends} {X : Cx} {ca : Cad} {ρ : List T} {t u : T} {v x : Option V}
/-! repr of plain data -/
def shwOk (p : PyData) : Bool := p.showable && (!p.hasDict && (decide (p.depth ≤ 60) && decide (p.shown.length ≤ sizeLine)))
def D.shw (d : D) : Option Str := d.py.bind fun p => if shwOk p then some p.shown else none
def fRepr : List T → List T → ER T := fun ts ρ => match ts with
  | [.imm _ d] => match d.shw with
    | some s => .ok (.imm false (.str s)) ρ
    | none => .bad
  | _ => .bad
/-! range(i, j, c) -/
def rangeDs (lo c : Int) (n : Nat) : List D := (List.range n).map fun (i : Nat) => D.int (lo + i * c)
instance {i j c : Int} {n : Nat} : Decidable (RgC i j c n) := by unfold RgC; exact inferInstance
def rangeItems3 : List T → List T → ER (Bool × List D)
  | [.imm _ (.int i), .imm _ (.int j), .imm _ (.int c)], ρ =>
    if RgC i j c (Builtin.Range.rangeSize i j c).toNat ∧ (Builtin.Range.rangeSize i j c).toNat ≤ 16777216 then .ok (false, rangeDs i c (Builtin.Range.rangeSize i j c).toNat) ρ else .bad
  | _, _ => .bad
def diRange3 (da : DA) : DI := fun ρ => (da ρ).bind rangeItems3
/-! x in l -/
def D.inL (d e : D) : Option Bool := match d.py, e.py with
  | some p, some (.list qs) => if SeqAt.shaped p && SeqAt.shaped (.list qs) then some (qs.any fun z => PyData.eqv z p) else none
  | _, _ => none
theorem inL_inv {d e : D} {b : Bool} (h : d.inL e = some b) : ∃ p qs, d.py = some p ∧ e.py = some (.list qs) ∧ SeqAt.shaped p = true ∧ SeqAt.shaped (.list qs) = true ∧ b = qs.any fun z => PyData.eqv z p := by
  unfold D.inL at h
  split at h
  · rename_i p q hp hq
    split at h
    · rename_i hs
      rw [Bool.and_eq_true] at hs
      cases h
      exact ⟨p, q, hp, hq, hs.1, hs.2, rfl⟩
    · cases h
  · cases h
def gIn : D → D → Option D := fun d e => (d.inL e).map D.bl
def gNin : D → D → Option D := fun d e => (d.inL e).map fun b => D.bl (!b)
theorem ops_in {k : Nat} (hr : RoomG k X.A) : OpS X ca W (compareOp .In) (fS gIn) := by
  have hu : X.A.units + 65 < cLine := by have := hr.r.un; omega
  refine ⟨_, op_inD hu, fun w H σ Q x y ρ v u S k => ?_⟩
  unfold fS at k
  split at k
  · rename_i b d c e
    obtain ⟨x', ex, r1⟩ := S.head_imm
    cases ex
    obtain ⟨y', ey, r2⟩ := S.drop.head_imm
    cases ey
    unfold gIn at k
    cases q : d.inL e with
    | none => simp only [q, Option.map_none] at k; exact k.elim
    | some z =>
      simp only [q, Option.map_some] at k
      obtain ⟨p, p', e1, e2, s1, s2, rfl⟩ := inL_inv q
      exact ⟨p, p', RD_py _ _ _ r1 e1, RD_py _ _ _ r2 e2, s1, s2, ok_scal S k rfl⟩
  · exact k.elim
end
/-! what can be shown: ints of up to seventy figures, texts -/
mutual
def D.dp : D → Nat
  | .lst xs | .tup xs => D.dps xs + 1
  | .non | .bl _ | .int _ | .str _ | .scr _ | .ty _ | .dic _ _ | .obj _ _ _ | .exn _ _ _ _ => 0
def D.dps : List D → Nat
  | [] => 0
  | d :: ds => max d.dp (D.dps ds)
end
mutual
def D.bk : D → Nat
  | .str x => x.cps.size
  | .lst xs | .tup xs => D.bks xs
  | .non | .bl _ | .int _ | .scr _ | .ty _ | .dic _ _ | .obj _ _ _ | .exn _ _ _ _ => 0
def D.bks : List D → Nat
  | [] => 0
  | d :: ds => d.bk + 1 + D.bks ds
end
theorem bks_le {c : Nat} : ∀ {ds : List D}, (∀ d ∈ ds, d.bk ≤ c) → D.bks ds ≤ (c + 1) * ds.length
  | [], _ => Nat.zero_le _
  | d :: ds, h => by
    have h1 := h d List.mem_cons_self
    have h2 := bks_le fun e he => h e (List.mem_cons_of_mem _ he)
    show d.bk + 1 + D.bks ds ≤ (c + 1) * (ds.length + 1)
    rw [Nat.mul_add]
    omega
theorem dps_le {c : Nat} : ∀ {ds : List D}, (∀ d ∈ ds, d.dp ≤ c) → D.dps ds ≤ c
  | [], _ => Nat.zero_le _
  | d :: ds, h => Nat.max_le.mpr ⟨h d List.mem_cons_self, dps_le fun e he => h e (List.mem_cons_of_mem _ he)⟩
end Gb

namespace Gb
open PySem PySem.Spec L2
section
variable {C : Ct} {W : WX} {pn ch : List Nat} {w w' : Wd} {H H' : Hp} {σ σ' : L2.St} {En : Ends} {X : Cx} {ca : Cad} {ρ : List T} {t u : T} {v x : Option V}
/-! pairs of ints: <, min -/
def ltP (p q : Int × Int) : Bool := decide (p.1 < q.1 ∨ (p.1 = q.1 ∧ p.2 < q.2))
def pairOf : D → Option (Int × Int)
  | .tup [.int a, .int b] => some (a, b)
  | _ => none
theorem pairOf_some {d : D} {p : Int × Int} (h : pairOf d = some p) : d = .tup [.int p.1, .int p.2] := by
  unfold pairOf at h
  split at h
  · cases h; rfl
  · cases h
theorem RD.pair {A : Addr → Prop} {d : D} {v : V} {p : Int × Int} (r : RD C H A d v) (h : pairOf d = some p) : ∃ a, v = .ref a ∧ SqT C.K H a [.int p.1, .int p.2] := by
  rw [pairOf_some h] at r
  obtain ⟨a, vs, rfl, ⟨l1, l2⟩, rd⟩ := r
  obtain ⟨y, ys, rfl, h1, h2⟩ := rd
  obtain ⟨z, zs, rfl, h3, h4⟩ := h2
  have h1 : y = .int p.1 := h1
  have h3 : z = .int p.2 := h3
  have h4 : zs = [] := h4
  subst h1; subst h3; subst h4
  exact ⟨a, rfl, .of l2⟩
def gLt : D → D → Option D := fun d e => match pairOf d, pairOf e with
  | some p, some q => some (.bl (ltP p q))
  | _, _ => gCmp (fun i j => decide (i < j)) d e
/-! min of a list of pairs -/
def minP (p : Int × Int) (ps : List (Int × Int)) : Int × Int := ps.foldl (fun a y => if ltP y a then y else a) p
def prs : List D → Option (List (Int × Int))
  | [] => some []
  | d :: ds => match pairOf d, prs ds with
    | some p, some ps => some (p :: ps)
    | _, _ => none
def fMinP : List T → List T → ER T := fun ts ρ => match ts with
  | [.imm b (.lst ds)] => match prs ds with
    | some (p :: ps) => .ok (.imm b (.tup [.int (minP p ps).1, .int (minP p ps).2])) ρ
    | _ => fMin ts ρ
  | _ => fMin ts ρ
end
end Gb

namespace Gb
open PySem PySem.Calls PyProof.Rows PySem.W
section
variable {prog : Program} {w : World} {A : Around} {E : Value → Shared → Prop} {s : Shared}
end
end Gb

namespace Gb
open PySem PySem.Calls PyProof.Rows PySem.W
section
variable {prog : Program} {w : World} {A : Around} {E : Value → Shared → Prop} {s : Shared} {env : Env}
end
end Gb

namespace Gb
open PySem PySem.Calls PyProof.Rows PySem.W
section
variable {prog : Program} {w : World} {A : Around} {E : Value → Shared → Prop} {s : Shared} {env : Env}
end
end Gb

namespace Gb
open PySem PySem.Spec L2 PyProof.Rows
def keyR (rk : Nat → Int) (i : Nat) : PyData := .tuple [.int (rk i), .int (i : Int)]
section
variable {X : Cx} {pins : List (Addr × Obj)} {σ : L2.St} {H : Hp} {s : Shared}
end
end Gb

namespace Gb
open PySem PySem.Spec L2 PyProof.Rows LamX
section
variable {X : Cx}
end
end Gb

namespace Gb
open PySem PySem.Spec L2 PyProof.Rows LamX
def fstI : D → Option Int
  | .tup (.int r :: _) => some r
  | _ => none
def rkOf (ds : List D) (j : Nat) : Int := ((ds[j]?).bind fstI).getD 0
def ordL (ds : List D) : List Nat := (List.range ds.length).mergeSort (PySem.W.dataLe false (keyR (rkOf ds)))
def gOrd : T → Option T → Option T
  | .imm _ (.int n), some (.imm _ (.lst ds)) => if n = ds.length ∧ ds.length ≤ 100000 ∧ (ds.all fun d => (fstI d).isSome) = true then some (.lstI ((ordL ds).map fun i => D.int (i : Nat))) else none
  | _, _ => none
def fOrd (i : Nat) : T → List T → ER T := fun t ρ => match gOrd t ρ[i]? with
  | some r => .ok r ρ
  | none => .bad
def dOrd (i : Nat) (de : DE) : DE := d1 (fOrd i) de
section
variable {X : Cx} {ca : Cad} {W : WX}
/-- the def's code object, its table, the name of the lambda within -/
structure LamT (ca : Cad) (base : Heap) (mg : Str → Option Value) (cdv : Value) (q : Str) : Prop where
  ex : ∃ c P, cdv = .ref c ∧ TabB base mg c P ∧ (P, q) ∈ ca.T ∧ ∀ p ∈ ca.T, p.1 = P → p.2 = q
end
end Gb

namespace Gb
open PySem PySem.Spec L2
/-! sorted(a list of ints); list(range(n)) -/
def sortI (ns : List Int) : List Int := ns.mergeSort fun a b => decide (a ≤ b)
def sortk (ρ : List T) : Option (List Int) → ER T
  | some ns => .ok (.lstI ((sortI ns).map D.int)) ρ
  | none => .bad
def fSortI : List T → List T → ER T
  | [.imm _ (.lst ds)], ρ => sortk ρ (D.ints ds)
  | _, _ => .bad
section
variable {X : Cx} {ca : Cad} {W : WX}
def fLstRg : T → DE
  | .imm _ (.int n), ρ => if 0 ≤ n ∧ n ≤ 16777216 then .ok (.lstI (rangeD 0 n.toNat)) ρ else .bad
  | _, _ => .bad
def dLstRg (de : DE) : DE := d1 fLstRg de
end
end Gb

namespace Gb
open PySem PySem.Spec L2 PyProof.Rows
/-! min(a list of ints, default=a written int) -/
def minDef (z : Int) : List Int → Int
  | [] => z
  | n :: ns => ns.foldl min n
section
variable {X : Cx}
end
def mindk (z : Int) (ρ : List T) : Option (List Int) → ER T
  | some ns => .ok (.imm false (.int (minDef z ns))) ρ
  | none => .bad
def fMinDef (z : Int) : T → DE
  | .imm _ (.lst ds), ρ => mindk z ρ (D.ints ds)
  | _, _ => .bad
def dMinDef (z : Int) (de : DE) : DE := d1 (fMinDef z) de
section
variable {X : Cx} {ca : Cad} {W : WX}
end
end Gb

namespace Gb
open PySem PySem.Spec L2
/-! what a denotation answers, step by step -/
def bnd {α β : Type} (r : ER α) (k : α → List T → ER β) : ER β := r.bind k
section
variable {α β : Type} {a : α} {ρ : List T} {k : α → List T → ER β} {x : Ex} {da db dc de : DE} {dr : DA} {c d e : D} {b b1 b2 b3 : Bool} {i j : Int} {n : Nat} {ds : List D} {t u : T} {ts : List T}
theorem v_bnd : bnd (.ok a ρ) k = k a ρ := rfl
theorem v_bnd_exc : bnd (.exc x ρ) k = .exc x ρ := rfl
theorem v_bnd_bad : bnd .bad k = .bad := rfl
theorem v_bnd_ite {p : Prop} [Decidable p] {r s : ER α} : bnd (if p then r else s) k = if p then bnd r k else bnd s k := by split <;> rfl
theorem v_d1 {f : T → DE} : d1 f da ρ = bnd (da ρ) f := rfl
def d2k (f : T → T → DE) (db : DE) : T → DE := fun x ρ => bnd (db ρ) (f x)
theorem v_d2 {f : T → T → DE} : d2 f da db ρ = bnd (da ρ) (d2k f db) := rfl
theorem v_d2k {f : T → T → DE} : d2k f db t ρ = bnd (db ρ) (f t) := rfl
def okS (r : Option D) (ρ : List T) : ER T := match r with
  | some r => .ok (.imm false r) ρ
  | none => .bad
theorem v_okS : okS (some d) ρ = .ok (.imm false d) ρ := rfl
theorem v_fS {g : D → D → Option D} : fS g (.imm b1 d) (.imm b2 e) ρ = okS (g d e) ρ := by
  unfold fS okS
  rfl
theorem v_gInt {f : Int → Int → Option Int} : gInt f (.int i) (.int j) = (f i j).map D.int := rfl
theorem v_gCmp {f : Int → Int → Bool} : gCmp f (.int i) (.int j) = some (.bl (f i j)) := rfl
theorem v_eq_int : gEq (.int i) (.int j) = some (.bl (decide (i = j))) := by simp [gEq]
theorem v_ne_int : gNe (.int i) (.int j) = some (.bl (!decide (i = j))) := by simp [gNe]
theorem v_eq_bl : gEq (.bl b1) (.bl b2) = some (.bl (b1 == b2)) := by simp [gEq]
theorem v_ne_bl : gNe (.bl b1) (.bl b2) = some (.bl (!(b1 == b2))) := by simp [gNe]
theorem v_gLt_int : gLt (.int i) (.int j) = some (.bl (decide (i < j))) := rfl
theorem v_gLt_pair {i2 j2 : Int} : gLt (.tup [.int i, .int i2]) (.tup [.int j, .int j2]) = some (.bl (ltP (i, i2) (j, j2))) := rfl
theorem v_eq_strS {s : Str} : gEq (.str s) (.str s) = some (.bl true) := by simp [gEq]
theorem v_eq_str {s t : Str} : gEq (.str s) (.str t) = some (.bl (decide (s = t))) := rfl
theorem v_ne_strS {s : Str} : gNe (.str s) (.str s) = some (.bl false) := by simp [gNe]
theorem v_ne_str {s t : Str} : gNe (.str s) (.str t) = some (.bl (!decide (s = t))) := rfl
theorem v_eq_ni : gEq .non (.int j) = some (.bl false) := by simp [gEq]
theorem v_eq_in : gEq (.int j) .non = some (.bl false) := by simp [gEq]
theorem v_eq_nn : gEq .non .non = some (.bl true) := by simp [gEq]
theorem v_ne_ni : gNe .non (.int j) = some (.bl true) := by simp [gNe]
theorem v_ne_in : gNe (.int j) .non = some (.bl true) := by simp [gNe]
theorem v_ne_nn : gNe .non .non = some (.bl false) := by simp [gNe]
theorem v_is_non : gIs d .non = some (.bl d.isNon) := rfl
theorem v_is_bl : gIs (.bl b1) (.bl b2) = some (.bl (b1 == b2)) := rfl
theorem v_isnot_non : gIsNot d .non = some (.bl (!d.isNon)) := rfl
theorem v_isnot_bl : gIsNot (.bl b1) (.bl b2) = some (.bl (!(b1 == b2))) := rfl
theorem v_isn_non : D.isNon .non = true := rfl
theorem v_isn_bl : D.isNon (.bl b) = false := rfl
theorem v_isn_int : D.isNon (.int i) = false := rfl
theorem v_isn_str {s : Str} : D.isNon (.str s) = false := rfl
theorem v_isn_lst : D.isNon (.lst ds) = false := rfl
theorem v_isn_tup : D.isNon (.tup ds) = false := rfl
theorem v_mod (h : 0 < j) : modI i j = some (i % j) := by
  unfold modI; rw [if_pos (decide_eq_true h)]
theorem mid_of (h1 : -18446744073709551616 < j) (h2 : j < 18446744073709551616) : mid j = true := by
  unfold mid B200
  exact decide_eq_true (by omega)
theorem v_div (h : 0 < j) (h2 : j < 18446744073709551616) : divI i j = some (i / j) := by
  unfold divI; rw [decide_eq_true h, mid_of (by omega) h2]; rfl
theorem v_mul_l (h1 : -18446744073709551616 < i) (h2 : i < 18446744073709551616) : mulI i j = some (i * j) := by
  have e : small i = true := decide_eq_true ⟨h1, h2⟩
  unfold mulI; rw [e, Bool.true_or, Bool.true_or]; rfl
theorem v_mul_r (h1 : -18446744073709551616 < j) (h2 : j < 18446744073709551616) : mulI i j = some (i * j) := by
  have e : small j = true := decide_eq_true ⟨h1, h2⟩
  unfold mulI; rw [e, Bool.or_true, Bool.true_or]; rfl
theorem v_mul_mm (h1 : -10000000000000000000000000000000000000000000000000000000000000000000000000000000000000000000000000000 < i) (h2 : i < 10000000000000000000000000000000000000000000000000000000000000000000000000000000000000000000000000000) (h3 : -10000000000000000000000000000000000000000000000000000000000000000000000000000000000000000000000000000 < j) (h4 : j < 10000000000000000000000000000000000000000000000000000000000000000000000000000000000000000000000000000) : mulI i j = some (i * j) := by
  have e1 : mid i = true := by unfold mid B200; exact decide_eq_true (by omega)
  have e2 : mid j = true := by unfold mid B200; exact decide_eq_true (by omega)
  unfold mulI; rw [e1, e2, Bool.and_self, Bool.or_true]; rfl
theorem v_pow (h1 : -18446744073709551616 < i) (h2 : i < 18446744073709551616) (h3 : 0 ≤ j) (h4 : j ≤ 1000000) : powI i j = some (i ^ j.toNat) := by
  have e : small i = true := decide_eq_true ⟨h1, h2⟩
  unfold powI; rw [e, decide_eq_true h3, decide_eq_true h4]; rfl
theorem v_shl (h0 : mid i = true) (h1 : 0 ≤ j) (h2 : j ≤ 100000) : shlI i j = some (i * 2 ^ j.toNat) := by
  unfold shlI; rw [h0, decide_eq_true h1, decide_eq_true h2]; rfl
theorem v_shls (h0 : -18446744073709551616 < i) (h00 : i < 18446744073709551616) (h1 : 0 ≤ j) (h2 : j ≤ 100000) : shlI i j = some (i * 2 ^ j.toNat) := v_shl (mid_of h0 h00) h1 h2
theorem v_shl_mm (h0 : -10000000000000000000000000000000000000000000000000000000000000000000000000000000000000000000000000000 < i) (h00 : i < 10000000000000000000000000000000000000000000000000000000000000000000000000000000000000000000000000000) (h1 : 0 ≤ j) (h2 : j ≤ 100000) : shlI i j = some (i * 2 ^ j.toNat) :=
  v_shl (by unfold mid B200; exact decide_eq_true (by omega)) h1 h2
theorem v_shr (h : 0 ≤ j) : shrI i j = some (i / 2 ^ j.toNat) := by
  unfold shrI; rw [if_pos (decide_eq_true h)]
theorem v_add_int : fAdd (.imm b1 (.int i)) (.imm b2 (.int j)) ρ = .ok (.imm false (.int (i + j))) ρ := rfl
theorem v_add_str {s z : Str} (h : s.length + z.length ≤ sizeLine) : fAdd (.imm b1 (.str s)) (.imm b2 (.str z)) ρ = .ok (.imm false (.str (s ++ z))) ρ := by
  unfold fAdd; simp only [if_pos h]
theorem v_add_lst {xs ys : List D} (h : xs.length + ys.length ≤ 16777216) : fAdd (.imm false (.lst xs)) (.imm false (.lst ys)) ρ = .ok (.lstI (xs ++ ys)) ρ := by
  unfold fAdd; simp only [if_pos (show xs.length + ys.length ≤ sizeLine from h)]
theorem v_add_tup {xs ys : List D} (h : xs.length + ys.length ≤ 16777216) : fAdd (.imm b1 (.tup xs)) (.imm b2 (.tup ys)) ρ = .ok (.imm (b1 || b2) (.tup (xs ++ ys))) ρ := by
  unfold fAdd; simp only [if_pos (show xs.length + ys.length ≤ sizeLine from h)]
theorem v_mul_int : fMul (.imm b1 (.int i)) (.imm b2 (.int j)) ρ = okS ((mulI i j).map D.int) ρ := by
  simp only [fMul, okS]
  cases mulI i j <;> simp
theorem v_mul_lst {xs : List D} (h1 : -16777216 < i) (h2 : i < 16777216) (h3 : xs.length * i.toNat ≤ 16777216) : fMul (.imm false (.lst xs)) (.imm b2 (.int i)) ρ = .ok (.lstI (List.replicate i.toNat xs).flatten) ρ := by
  unfold fMul
  simp only [decide_eq_true h1, decide_eq_true h2, decide_eq_true (show xs.length * i.toNat ≤ sizeLine from h3)]
  rfl
theorem v_U {g : Int → Int} : fU g (.imm b (.int i)) ρ = .ok (.imm false (.int (g i))) ρ := rfl
def vark (i : Nat) (ρ : List T) : Option T → ER T
  | some t => (match t.frz with
    | some (b, d) => .ok (.imm b d) (ρ.set i (.imm b d))
    | none => .bad)
  | none => .bad
theorem v_var : dVar n ρ = vark n ρ ρ[n]? := rfl
theorem v_vark : vark n ρ (some (.imm b d)) = .ok (.imm b d) (ρ.set n (.imm b d)) := rfl
theorem v_vark_dicI {ks : List Key} : vark n ρ (some (.dicI ks ds)) = .ok (.imm false (.dic ks ds)) (ρ.set n (.imm false (.dic ks ds))) := rfl
theorem v_movk_dicI0 {ks : List Key} : T.frz (.dicI ks ds) = some (false, .dic ks ds) := rfl
theorem v_vark_lstI : vark n ρ (some (.lstI ds)) = .ok (.imm false (.lst ds)) (ρ.set n (.imm false (.lst ds))) := rfl
def movk (i : Nat) (ρ : List T) : Option T → ER T
  | some .dead => .bad
  | some t => .ok t (ρ.set i .dead)
  | none => .bad
theorem v_move : dMove n ρ = movk n ρ ρ[n]? := by
  unfold dMove movk
  cases ρ[n]? with
  | none => rfl
  | some t => cases t <;> rfl
theorem v_movk : movk n ρ (some (.imm b d)) = .ok (.imm b d) (ρ.set n .dead) := rfl
theorem v_movk_lstI : movk n ρ (some (.lstI ds)) = .ok (.lstI ds) (ρ.set n .dead) := rfl
theorem v_movk_lst : movk n ρ (some (.lst ts)) = .ok (.lst ts) (ρ.set n .dead) := rfl
def lend2 (n : Nat) (t : T) (m : Nat) : ER T → ER T
  | .ok r ρ' => if noBs (r :: ρ'.set n t) && decide (ρ'.length = m) then .ok r (ρ'.set n t) else .bad
  | .exc e ρ' => if noBs (ρ'.set n t) && decide (ρ'.length = m) then .exc e (ρ'.set n t) else .bad
  | .bad => .bad
def lendk (n : Nat) (de : DE) (ρ : List T) : Option T → ER T
  | some t => (match t.frz with
    | some (_, d) => lend2 n t ρ.length (de (ρ.set n (.imm true d)))
    | none => .bad)
  | none => .bad
theorem v_Lend : dLend n de ρ = lendk n de ρ ρ[n]? := by
  unfold dLend lendk lend2
  cases ρ[n]? with
  | none => rfl
  | some t =>
    simp only <;> cases t.frz with
    | none => rfl
    | some p =>
      obtain ⟨b, d⟩ := p
      simp only <;> cases de (ρ.set n (.imm true d)) <;> rfl
def lendt2 (n : Nat) (t : T) (m : Nat) : ER Bool → ER Bool
  | .ok r ρ' => if noBs (ρ'.set n t) && decide (ρ'.length = m) then .ok r (ρ'.set n t) else .bad
  | .exc e ρ' => if noBs (ρ'.set n t) && decide (ρ'.length = m) then .exc e (ρ'.set n t) else .bad
  | .bad => .bad
def lendtk (n : Nat) (dt : DT) (ρ : List T) : Option T → ER Bool
  | some t => (match t.frz with
    | some (_, d) => lendt2 n t ρ.length (dt (ρ.set n (.imm true d)))
    | none => .bad)
  | none => .bad
theorem v_tLend {dt : DT} : dtLend n dt ρ = lendtk n dt ρ ρ[n]? := by
  unfold dtLend lendtk lendt2
  cases ρ[n]? with
  | none => rfl
  | some t =>
    simp only <;> cases t.frz with
    | none => rfl
    | some p =>
      obtain ⟨b, d⟩ := p
      simp only <;> cases dt (ρ.set n (.imm true d)) <;> rfl
theorem v_lendtk {dt : DT} : lendtk n dt ρ (some (.imm b d)) = lendt2 n (.imm b d) ρ.length (dt (ρ.set n (.imm true d))) := rfl
theorem v_lendtk_lstI {dt : DT} : lendtk n dt ρ (some (.lstI ds)) = lendt2 n (.lstI ds) ρ.length (dt (ρ.set n (.imm true (.lst ds)))) := rfl
theorem v_lendt2 {m : Nat} : lendt2 n t m (.ok b ρ) = if noBs (ρ.set n t) && decide (ρ.length = m) then .ok b (ρ.set n t) else .bad := rfl
def lsvk (ρ : List T) : Option T → ER T
  | some (.lstI ds) => .ok (.lstI ds) ρ
  | _ => .bad
theorem v_ListV : dListV n ρ = lsvk ρ ρ[n]? := by
  unfold dListV lsvk
  rfl
theorem v_lsvk : lsvk ρ (some (.lstI ds)) = .ok (.lstI ds) ρ := rfl
theorem v_lendk : lendk n de ρ (some (.imm b d)) = lend2 n (.imm b d) ρ.length (de (ρ.set n (.imm true d))) := rfl
theorem v_lendk_lstI : lendk n de ρ (some (.lstI ds)) = lend2 n (.lstI ds) ρ.length (de (ρ.set n (.imm true (.lst ds)))) := rfl
theorem v_lend2 {m : Nat} : lend2 n t m (.ok u ρ) = if noBs (u :: ρ.set n t) && decide (ρ.length = m) then .ok u (ρ.set n t) else .bad := rfl
theorem v_noBs_nil : noBs [] = true := rfl
theorem v_noBs : noBs (t :: ts) = (noB t && noBs ts) := rfl
theorem v_noB_imm : noB (.imm b d) = !b := rfl
theorem v_noB_dead : noB .dead = true := rfl
theorem v_noB_lstI : noB (.lstI ds) = true := rfl
theorem v_noB_lst : noB (.lst ts) = noBs ts := rfl
theorem v_C : dC d ρ = .ok (.imm false d) ρ := rfl
def frk (t : T) (ρ : List T) : ER T := match t.frz with
  | some (b, d) => .ok (.imm b d) ρ
  | none => .bad
theorem v_Fr : dFr de ρ = bnd (de ρ) frk := rfl
theorem v_frk : frk (.imm b d) ρ = .ok (.imm b d) ρ := rfl
theorem v_frk_lstI : frk (.lstI ds) ρ = .ok (.imm false (.lst ds)) ρ := rfl
theorem v_Dic0 : dDic0 ρ = .ok (.dicI [] []) ρ := rfl
theorem v_Dic1 : dDic1 da db ρ = bnd (da ρ) (d2k fDic1 db) := rfl
theorem v_fDic1 : fDic1 (.imm b (.int i)) (.imm false d) ρ = .ok (.dicI [.inl i] [d]) ρ := by cases b <;> rfl
theorem v_frk_dicI {ks : List Key} : frk (.dicI ks ds) ρ = .ok (.imm false (.dic ks ds)) ρ := rfl
theorem v_isn_dic {ks : List Key} : D.isNon (.dic ks ds) = false := rfl
theorem v_Nil : dNil ρ = .ok [] ρ := rfl
def consk2 (t : T) : List T → List T → ER (List T) := fun ts ρ => .ok (t :: ts) ρ
def consk (dr : DA) : T → List T → ER (List T) := fun t ρ => bnd (dr ρ) (consk2 t)
theorem v_Cons : dCons da dr ρ = bnd (da ρ) (consk dr) := rfl
theorem v_consk : consk dr t ρ = bnd (dr ρ) (consk2 t) := rfl
theorem v_consk2 : consk2 t ts ρ = .ok (t :: ts) ρ := rfl
def tupk : Option (Bool × List D) → List T → ER T
  | some (b, ds), ρ => .ok (.imm b (.tup ds)) ρ
  | none, _ => .bad
def lstk : Option (Bool × List D) → List T → ER T
  | some (false, ds), ρ => .ok (.lstI ds) ρ
  | _, _ => .bad
theorem v_Tup : dTup dr ρ = bnd (dr ρ) fTup := rfl
theorem v_fTup : fTup ts ρ = if ts.length ≤ 1000 then tupk (frzs ts) ρ else .bad := by
  unfold fTup tupk
  split
  · cases frzs ts <;> rfl
  · rfl
theorem v_tupk : tupk (some (b, ds)) ρ = .ok (.imm b (.tup ds)) ρ := rfl
theorem v_Lst : dLst dr ρ = bnd (dr ρ) fLst := rfl
theorem v_fLst : fLst ts ρ = if ts.length ≤ 1000 then lstk (frzs ts) ρ else .bad := by
  unfold fLst lstk
  split
  · split <;> simp_all
  · rfl
theorem v_lstk : lstk (some (false, ds)) ρ = .ok (.lstI ds) ρ := rfl
def frzk (b : Bool) (d : D) : Option (Bool × List D) → Option (Bool × List D)
  | some (c, ds) => some (b || c, d :: ds)
  | none => none
theorem v_frzs_nil : frzs [] = some (false, []) := rfl
theorem v_frzs : frzs (.imm b d :: ts) = frzk b d (frzs ts) := by
  simp only [frzs, T.frz, frzk]
  cases frzs ts <;> simp
theorem v_frzs_dicI {ks : List Key} : frzs (.dicI ks ds :: ts) = frzk false (.dic ks ds) (frzs ts) := by
  simp only [frzs, T.frz, frzk]
  cases frzs ts <;> simp
theorem v_frzs_lstI : frzs (.lstI ds :: ts) = frzk false (.lst ds) (frzs ts) := by
  simp only [frzs, T.frz, frzk]
  cases frzs ts <;> simp
theorem v_frzk : frzk b d (some (b1, ds)) = some (b || b1, d :: ds) := rfl
theorem v_frz : T.frz (.imm b d) = some (b, d) := rfl
theorem v_frz_lstI : T.frz (.lstI ds) = some (false, .lst ds) := rfl
theorem v_Bi {f : List T → List T → ER T} : dBi f dr ρ = bnd (dr ρ) f := rfl
def callk (Fn : FnT) (ds : List D) : List T → List T → ER T := fun ts ρ => afterCall ρ (Fn (ts ++ ds.map (T.imm false)))
theorem v_Call {Fn : FnT} : dCall Fn ds dr ρ = bnd (dr ρ) (callk Fn ds) := rfl
theorem v_callk {Fn : FnT} : callk Fn ds ts ρ = afterCall ρ (Fn (ts ++ ds.map (T.imm false))) := rfl
theorem v_after : afterCall ρ (.ok t) = .ok t ρ := rfl
theorem v_after_exc : afterCall ρ (.exc x) = .exc x ρ := rfl
theorem v_after_ite {p : Prop} [Decidable p] {r s : FR} : afterCall ρ (if p then r else s) = if p then afterCall ρ r else afterCall ρ s := by split <;> rfl
/-! statements -/
section
variable {s1 s2 : DS} {q r : SR} {dt dt2 : DT} {g : T → List T → SR} {p : Prop} [Decidable p]
def seqk (r : SR) (b : DS) : SR := match r with
  | .next ρ => b ρ
  | r => r
theorem v_Seq : dSeq s1 s2 ρ = seqk (s1 ρ) s2 := by
  unfold dSeq seqk
  cases s1 ρ <;> rfl
theorem v_seqk : seqk (.next ρ) s2 = s2 ρ := rfl
theorem v_seqk_ret : seqk (.ret t ρ) s2 = .ret t ρ := rfl
theorem v_seqk_exc : seqk (.exc x ρ) s2 = .exc x ρ := rfl
theorem v_seqk_brk : seqk (.brk ρ) s2 = .brk ρ := rfl
theorem v_seqk_cont : seqk (.cont ρ) s2 = .cont ρ := rfl
theorem v_seqk_ite : seqk (if p then q else r) s2 = if p then seqk q s2 else seqk r s2 := by split <;> rfl
def exk (r : ER T) (g : T → List T → SR) : SR := match r with
  | .ok t ρ => g t ρ
  | .exc e ρ => .exc e ρ
  | .bad => .bad
theorem v_exk : exk (.ok t ρ) g = g t ρ := rfl
theorem v_exk_exc : exk (.exc x ρ) g = .exc x ρ := rfl
theorem v_exk_ite {r s : ER T} : exk (if p then r else s) g = if p then exk r g else exk s g := by split <;> rfl
theorem v_Raise : dRaise n ρ = .exc ⟨n, [], []⟩ ρ := rfl
noncomputable def tryk (i : Nat) (r : Nat → Option Bool) (ds : Nat → Nat → Ex → DS) (q : SR) : SR := dTry i r (fun _ => q) ds []
theorem v_Try {r : Nat → Option Bool} {su : Nat → Nat → Ex → DS} : dTry n r s1 su ρ = tryk n r su (s1 ρ) := rfl
theorem v_tryk {r : Nat → Option Bool} {su : Nat → Nat → Ex → DS} : tryk n r su (.next ρ) = .next ρ := rfl
theorem v_exD {a dd m : Nat} {ns : List Str} {vs : List D} : exD a dd ⟨m, ns, vs⟩ = .exn a dd ns vs := rfl
def isek (a dd : Nat) (e : Ex) (r : Option Bool) (ρ : List T) : Option T → ER T
  | some (.imm b (.exn a' dd' ns vs)) => if b = false ∧ a' = a ∧ dd' = dd ∧ ns = e.ns then (match r with
    | some b => .ok (.imm false (.bl b)) ρ
    | none => .bad) else .bad
  | _ => .bad
theorem v_IsE {a dd : Nat} {e : Ex} {r : Option Bool} : dIsE a dd e n r ρ = isek a dd e r ρ ρ[n]? := rfl
theorem v_isek {a dd m : Nat} {ns : List Str} {vs us : List D} : isek a dd ⟨m, ns, vs⟩ (some b) ρ (some (.imm false (.exn a dd ns us))) = .ok (.imm false (.bl b)) ρ := if_pos ⟨rfl, rfl, rfl, rfl⟩
theorem v_anyO_nil : anyO [] = some false := rfl
theorem v_anyO_t {r : List (Option Bool)} : anyO (some true :: r) = some true := rfl
theorem v_anyO_f {r : List (Option Bool)} : anyO (some false :: r) = anyO r := rfl
def isT2 (n j k : Nat) (r : Option Bool) : Option Bool := if n = k then some (j == k || j == 0 || j == 100) else r
theorem v_isT_nil {j k : Nat} : isT [] j k = none := by unfold isT; rw [if_neg (by simp)]
theorem v_isT {ks : List Nat} {j k : Nat} : isT (n :: ks) j k = isT2 n j k (isT ks j k) := by
  unfold isT isT2
  by_cases h : n = k
  · subst h; simp
  · rw [if_neg h]
    by_cases h2 : k ∈ ks
    · rw [if_pos h2, if_pos (by simp [h2])]
    · rw [if_neg h2, if_neg (by simp [h2]; exact fun z => h z.symm)]
theorem v_isT2 {j : Nat} {r : Option Bool} : isT2 n j n r = some (j == n || j == 0 || j == 100) := if_pos rfl
def xfk (a dd : Nat) (e : Ex) (f : Str) (ok : Nat → Bool) (ρ : List T) : Option T → ER T
  | some (.imm b (.exn a' dd' ns vs)) => if b = false ∧ a' = a ∧ dd' = dd ∧ ns = e.ns ∧ e.ns ≠ [] ∧ ok e.c = true then (match lookF f ns vs with
    | some d => .ok (.imm false d) ρ
    | none => .bad) else .bad
  | _ => .bad
theorem v_Xf {a dd : Nat} {e : Ex} {f : Str} {ok : Nat → Bool} : dXf a dd e n f ok ρ = xfk a dd e f ok ρ ρ[n]? := rfl
theorem v_Pass : dPass ρ = .next ρ := rfl
theorem v_Break : dBreak ρ = .brk ρ := rfl
theorem v_Cont : dCont ρ = .cont ρ := rfl
def setk (i : Nat) : T → List T → SR := fun t ρ => .next (ρ.set i t)
theorem v_Set : dSet n de ρ = exk (de ρ) (setk n) := rfl
theorem v_setk : setk n t ρ = .next (ρ.set n t) := rfl
def retk : T → List T → SR := .ret
theorem v_Ret : dRet de ρ = exk (de ρ) retk := rfl
theorem v_retk : retk t ρ = .ret t ρ := rfl
theorem v_RetN : dRetN ρ = .ret (.imm false .non) ρ := rfl
def dropk : T → List T → SR := fun _ ρ => .next ρ
theorem v_Drop : dDrop de ρ = exk (de ρ) dropk := rfl
theorem v_dropk : dropk t ρ = .next ρ := rfl
def asgk2 : Option (List T) → SR
  | some ρ => .next ρ
  | none => .bad
def asgk (dg : DG) : T → List T → SR := fun t ρ => asgk2 (dg t ρ)
theorem v_Asg {dg : DG} : dAsg dg de ρ = exk (de ρ) (asgk dg) := by
  unfold dAsg dEx exk asgk asgk2
  cases de ρ with
  | ok t ρ' => cases dg t ρ' <;> rfl
  | exc e ρ => rfl
  | bad => rfl
theorem v_asgk {dg : DG} : asgk dg t ρ = asgk2 (dg t ρ) := rfl
theorem v_asgk2 : asgk2 (some ρ) = .next ρ := rfl
theorem v_gName : dgName n t ρ = some (ρ.set n t) := rfl
theorem v_gTup {g : DGs} : dgTup g (.imm b (.tup ds)) ρ = g b ds ρ := rfl
theorem v_gNil : dgNil b [] ρ = some ρ := rfl
def gck (r : DGs) (b : Bool) (ds : List D) : Option (List T) → Option (List T)
  | some ρ => r b ds ρ
  | none => none
theorem v_gCons {g : DG} {r : DGs} : dgCons g r b (d :: ds) ρ = gck r b ds (g (.imm b d) ρ) := by
  unfold dgCons gck
  rfl
theorem v_gck {r : DGs} : gck r b ds (some ρ) = r b ds ρ := rfl
def iteS (x : Bool) (a b : DS) : DS := fun ρ => if x = true then a ρ else b ρ
def ifk (r : ER Bool) (a b : DS) : SR := match r with
  | .ok x ρ => iteS x a b ρ
  | .exc e ρ => .exc e ρ
  | .bad => .bad
theorem v_If : dIf dt s1 s2 ρ = ifk (dt ρ) s1 s2 := by
  unfold dIf ifk iteS
  cases dt ρ <;> rfl
theorem v_ifk : ifk (.ok b ρ) s1 s2 = iteS b s1 s2 ρ := rfl
theorem v_ifk_exc : ifk (.exc x ρ) s1 s2 = .exc x ρ := rfl
theorem v_ifk_ite {r s : ER Bool} : ifk (if p then r else s) s1 s2 = if p then ifk r s1 s2 else ifk s s1 s2 := by split <;> rfl
theorem v_iteS_t : iteS true s1 s2 ρ = s1 ρ := rfl
theorem v_iteS_f : iteS false s1 s2 ρ = s2 ρ := rfl
theorem v_iteS_d : iteS (decide p) s1 s2 ρ = if p then s1 ρ else s2 ρ := by
  unfold iteS
  by_cases h : p <;> simp [h]
theorem v_iteS_n : iteS (!b) s1 s2 ρ = iteS b s2 s1 ρ := by
  unfold iteS
  cases b <;> rfl
theorem v_tVal : dtVal de ρ = bnd (de ρ) asBool := rfl
theorem v_asBool : asBool (.imm b (.bl b1)) ρ = .ok b1 ρ := rfl
def tandk (b : DT) : Bool → List T → ER Bool := fun x ρ => if x then b ρ else .ok false ρ
def tork (b : DT) : Bool → List T → ER Bool := fun x ρ => if x then .ok true ρ else b ρ
def tnotk : Bool → List T → ER Bool := fun x ρ => .ok (!x) ρ
theorem v_tAnd : dtAnd dt dt2 ρ = bnd (dt ρ) (tandk dt2) := rfl
theorem v_tandk_t : tandk dt true ρ = dt ρ := rfl
theorem v_tandk_f : tandk dt false ρ = .ok false ρ := rfl
theorem v_tandk_d : tandk dt (decide p) ρ = if p then dt ρ else .ok false ρ := by
  unfold tandk; by_cases h : p <;> simp [h]
theorem v_tOr : dtOr dt dt2 ρ = bnd (dt ρ) (tork dt2) := rfl
theorem v_tork_t : tork dt true ρ = .ok true ρ := rfl
theorem v_tork_f : tork dt false ρ = dt ρ := rfl
theorem v_tork_d : tork dt (decide p) ρ = if p then .ok true ρ else dt ρ := by
  unfold tork; by_cases h : p <;> simp [h]
theorem v_tNot : dtNot dt ρ = bnd (dt ρ) tnotk := rfl
theorem v_tnotk : tnotk b ρ = .ok (!b) ρ := rfl
theorem v_tYes : dtYes ρ = .ok true ρ := rfl
def andk (db : DE) : T → List T → ER T := fun x ρ => match x with
  | .imm _ (.bl true) => db ρ
  | .imm _ (.bl false) => .ok (.imm false (.bl false)) ρ
  | _ => .bad
def ork (db : DE) : T → List T → ER T := fun x ρ => match x with
  | .imm _ (.bl false) => db ρ
  | .imm _ (.bl true) => .ok (.imm false (.bl true)) ρ
  | _ => .bad
def notk : T → List T → ER T := fun x ρ => match x with
  | .imm _ (.bl b) => .ok (.imm false (.bl (!b))) ρ
  | _ => .bad
theorem v_And : dAnd da db ρ = bnd (da ρ) (andk db) := rfl
theorem v_andk_t : andk db (.imm b (.bl true)) ρ = db ρ := rfl
theorem v_andk_f : andk db (.imm b (.bl false)) ρ = .ok (.imm false (.bl false)) ρ := rfl
theorem v_andk_d : andk db (.imm b (.bl (decide p))) ρ = if p then db ρ else .ok (.imm false (.bl false)) ρ := by
  by_cases h : p <;> simp [h, andk]
theorem v_Or : dOr da db ρ = bnd (da ρ) (ork db) := rfl
theorem v_ork_f : ork db (.imm b (.bl false)) ρ = db ρ := rfl
theorem v_ork_t : ork db (.imm b (.bl true)) ρ = .ok (.imm false (.bl true)) ρ := rfl
theorem v_ork_d : ork db (.imm b (.bl (decide p))) ρ = if p then .ok (.imm false (.bl true)) ρ else db ρ := by
  by_cases h : p <;> simp [h, ork]
theorem v_Not : dNot da ρ = bnd (da ρ) notk := rfl
theorem v_notk : notk (.imm b (.bl b1)) ρ = .ok (.imm false (.bl (!b1))) ρ := rfl
def iteE (x : Bool) (a b : DE) : DE := fun ρ => if x = true then a ρ else b ρ
def ifek (r : ER Bool) (a b : DE) : ER T := match r with
  | .ok x ρ => iteE x a b ρ
  | .exc e ρ => .exc e ρ
  | .bad => .bad
theorem v_IfE : dIfE dt da db ρ = ifek (dt ρ) da db := by
  unfold dIfE ifek iteE
  cases dt ρ <;> rfl
theorem v_ifek : ifek (.ok b ρ) da db = iteE b da db ρ := rfl
theorem v_ifek_ite {r s : ER Bool} : ifek (if p then r else s) da db = if p then ifek r da db else ifek s da db := by split <;> rfl
theorem v_iteE_t : iteE true da db ρ = da ρ := rfl
theorem v_iteE_f : iteE false da db ρ = db ρ := rfl
theorem v_iteE_d : iteE (decide p) da db ρ = if p then da ρ else db ρ := by
  unfold iteE
  by_cases h : p <;> simp [h]
theorem v_iteE_n : iteE (!b) da db ρ = iteE b db da ρ := by
  unfold iteE
  cases b <;> rfl
theorem v_fin_next : fin (.next ρ) = .ok (.imm false .non) := rfl
theorem v_fin_ret : fin (.ret t ρ) = .ok t := rfl
theorem v_fin_exc : fin (.exc x ρ) = .exc x := rfl
theorem v_fin_ite : fin (if p then q else r) = if p then fin q else fin r := by split <;> rfl
theorem v_mkFn {N m : Nat} {body : DS} : mkFn N m body ts = if ts.length = m then fin (body (ts ++ List.replicate (N - m) .dead)) else .bad := rfl
theorem v_rep0 : List.replicate 0 T.dead = [] := rfl
theorem v_repS {m : Nat} : List.replicate (m + 1) T.dead = .dead :: List.replicate m .dead := rfl
end
end
end Gb

namespace Gb
open PySem PySem.Spec L2
section
variable {α β : Type} {a : α} {ρ : List T} {k : α → List T → ER β} {x : Ex} {da db dc de : DE} {dr : DA} {c d e : D} {b b1 b2 b3 : Bool} {i j : Int} {n m : Nat} {ds es : List D} {t u : T} {ts : List T} {p : Prop} [Decidable p]
/-! built-in functions -/
def lenk (r : Option Nat) (ρ : List T) : ER T := match r with
  | some n => .ok (.imm false (.int n)) ρ
  | none => .bad
theorem v_fLen : fLen [.imm b d] ρ = lenk d.len? ρ := rfl
theorem v_lenk : lenk (some n) ρ = .ok (.imm false (.int n)) ρ := rfl
theorem v_len_lst : D.len? (.lst ds) = some ds.length := rfl
theorem v_len_tup : D.len? (.tup ds) = some ds.length := rfl
theorem v_len_scr {ns : List Int} : D.len? (.scr ns) = some ns.length := rfl
theorem v_len_str {s : Str} (h : s.length ≤ 16777216) : D.len? (.str s) = some s.length := if_pos (show s.length ≤ sizeLine from h)
def lenvk (ρ : List T) : Option T → ER T
  | some (.lstI ds) => .ok (.imm false (.int ds.length)) ρ
  | some (.imm _ d) => lenk d.len? ρ
  | some (.lst ts) => .ok (.imm false (.int ts.length)) ρ
  | _ => .bad
theorem v_lenV : dLenV n ρ = lenvk ρ ρ[n]? := by
  unfold dLenV lenvk lenk
  cases ρ[n]? with
  | none => rfl
  | some t => cases t <;> rfl
theorem v_lenvk : lenvk ρ (some (.imm b d)) = lenk d.len? ρ := rfl
theorem v_lenvk_lstI : lenvk ρ (some (.lstI ds)) = .ok (.imm false (.int ds.length)) ρ := rfl
theorem v_lenvk_lst : lenvk ρ (some (.lst ts)) = .ok (.imm false (.int ts.length)) ρ := rfl
theorem v_fMinP2 : fMinP [.imm b1 (.int i), .imm b2 (.int j)] ρ = .ok (.imm false (.int (min i j))) ρ := rfl
theorem v_fMinP_1 {i2 : Int} : fMinP [.imm b (.lst [.tup [.int i, .int i2]])] ρ = .ok (.imm b (.tup [.int i, .int i2])) ρ := rfl
theorem v_fMinP_2 {i2 j2 : Int} : fMinP [.imm b (.lst [.tup [.int i, .int i2], .tup [.int j, .int j2]])] ρ = .ok (.imm b (.tup [.int (if ltP (j, j2) (i, i2) then (j, j2) else (i, i2)).1, .int (if ltP (j, j2) (i, i2) then (j, j2) else (i, i2)).2])) ρ := rfl
def reprk (o : Option Str) (ρ : List T) : ER T := match o with
  | some s => .ok (.imm false (.str s)) ρ
  | none => .bad
theorem v_fRepr : fRepr [.imm b d] ρ = reprk d.shw ρ := by
  unfold fRepr reprk
  rfl
theorem v_reprk {s : Str} : reprk (some s) ρ = .ok (.imm false (.str s)) ρ := rfl
theorem v_fAbs : fAbs [.imm b (.int i)] ρ = .ok (.imm false (.int (if i < 0 then -i else i))) ρ := rfl
theorem v_fMax2 : fMax [.imm b1 (.int i), .imm b2 (.int j)] ρ = .ok (.imm false (.int (max i j))) ρ := rfl
theorem v_fMin2 : fMin [.imm b1 (.int i), .imm b2 (.int j)] ρ = .ok (.imm false (.int (min i j))) ρ := rfl
theorem v_fInt : fInt [.imm b (.int i)] ρ = .ok (.imm false (.int i)) ρ := rfl
theorem v_fInt_bl : fInt [.imm b (.bl b1)] ρ = .ok (.imm false (.int (if b1 then 1 else 0))) ρ := rfl
theorem v_fTuple_l : fTuple [.imm b (.lst ds)] ρ = .ok (.imm (bfl b ds) (.tup ds)) ρ := rfl
theorem v_bfl_f : bfl false ds = false := rfl
theorem v_bfl_t : bfl true ds = !ds.all D.flat := rfl
theorem v_fTuple_t : fTuple [.imm b (.tup ds)] ρ = .ok (.imm b (.tup ds)) ρ := rfl
theorem v_fList_l : fList [.imm false (.lst ds)] ρ = .ok (.lstI ds) ρ := rfl
theorem v_fList_t : fList [.imm false (.tup ds)] ρ = .ok (.lstI ds) ρ := rfl
theorem v_fList_b (h : ds.all D.flat = true) : fList [.imm true (.tup ds)] ρ = .ok (.lstI ds) ρ := if_pos h
theorem v_fList_s {ns : List Int} : fList [.imm b (.scr ns)] ρ = .ok (.lstI (ns.map D.int)) ρ := by cases b <;> rfl
def blk' (g : List Bool → Bool) (r : Option (List Bool)) (ρ : List T) : ER T := match r with
  | some bs => .ok (.imm false (.bl (g bs))) ρ
  | none => .bad
theorem v_fBools {g : List Bool → Bool} : fBools g [.imm b (.lst ds)] ρ = blk' g (D.bools ds) ρ := rfl
theorem v_blk {g : List Bool → Bool} {bs : List Bool} : blk' g (some bs) ρ = .ok (.imm false (.bl (g bs))) ρ := rfl
def sumk (r : Option (List Int)) (ρ : List T) : ER T := match r with
  | some ns => .ok (.imm false (.int ns.sum)) ρ
  | none => .bad
theorem v_fSum : fSum [.imm b d] ρ = sumk d.intList ρ := rfl
theorem v_sumk {ns : List Int} : sumk (some ns) ρ = .ok (.imm false (.int ns.sum)) ρ := rfl
theorem v_intList : D.intList (.lst ds) = D.ints ds := rfl
def consO {α : Type} (a : α) (r : Option (List α)) : Option (List α) := match r with
  | some xs => some (a :: xs)
  | none => none
theorem v_ints_nil : D.ints [] = some [] := rfl
theorem v_ints : D.ints (.int i :: ds) = consO i (D.ints ds) := by
  rw [D.ints]; unfold consO; cases D.ints ds <;> rfl
theorem v_bools_nil : D.bools [] = some [] := rfl
theorem v_bools : D.bools (.bl b :: ds) = consO b (D.bools ds) := by
  rw [D.bools]; unfold consO; cases D.bools ds <;> rfl
theorem v_consO {xs : List α} : consO a (some xs) = some (a :: xs) := rfl
def isik (t : Option String) (n : String) (ρ : List T) : ER T := match t with
  | some t => (match isB t n with
    | some b => .ok (.imm false (.bl b)) ρ
    | none => .bad)
  | none => .bad
def isik2 (r : Option Bool) (ρ : List T) : ER T := match r with
  | some b => .ok (.imm false (.bl b)) ρ
  | none => .bad
theorem v_isi {s : String} : fIsi [.imm b d, .imm b1 (.ty s)] ρ = isik d.kind s ρ := rfl
theorem v_isik {s z : String} : isik (some s) z ρ = isik2 (isB s z) ρ := rfl
theorem v_isik2 : isik2 (some b) ρ = .ok (.imm false (.bl b)) ρ := rfl
def isitk (t : Option String) (cs : List D) (ρ : List T) : ER T := match t with
  | some t => isik2 (isIn t cs) ρ
  | none => .bad
theorem v_isit : fIsi [.imm b d, .imm b1 (.tup ds)] ρ = isitk d.kind ds ρ := rfl
theorem v_isitk {s : String} : isitk (some s) ds ρ = isik2 (isIn s ds) ρ := rfl
def tyB (d : D) : Bool := match d with | .ty _ => true | _ => false
def isInk (r : Option Bool) (t : String) (cs : List D) : Option Bool := match r with
  | some true => if cs.all tyB then some true else none
  | some false => isIn t cs
  | none => none
theorem v_isIn_nil {s : String} : isIn s [] = some false := rfl
theorem v_isIn {s z : String} : isIn s (.ty z :: ds) = isInk (isB s z) s ds := rfl
theorem v_isInk_t {s : String} : isInk (some true) s ds = if ds.all tyB then some true else none := rfl
theorem v_isInk_f {s : String} : isInk (some false) s ds = isIn s ds := rfl
theorem v_tyB {s : String} : tyB (.ty s) = true := rfl
theorem isB_NoneType_int : isB "NoneType" "int" = some false := rfl
theorem isB_NoneType_bool : isB "NoneType" "bool" = some false := rfl
theorem isB_NoneType_str : isB "NoneType" "str" = some false := rfl
theorem isB_NoneType_list : isB "NoneType" "list" = some false := rfl
theorem isB_NoneType_tuple : isB "NoneType" "tuple" = some false := rfl
theorem isB_NoneType_dict : isB "NoneType" "dict" = some false := rfl
theorem isB_bool_int : isB "bool" "int" = some true := rfl
theorem isB_bool_bool : isB "bool" "bool" = some true := rfl
theorem isB_bool_str : isB "bool" "str" = some false := rfl
theorem isB_bool_list : isB "bool" "list" = some false := rfl
theorem isB_bool_tuple : isB "bool" "tuple" = some false := rfl
theorem isB_bool_dict : isB "bool" "dict" = some false := rfl
theorem isB_int_int : isB "int" "int" = some true := rfl
theorem isB_int_bool : isB "int" "bool" = some false := rfl
theorem isB_int_str : isB "int" "str" = some false := rfl
theorem isB_int_list : isB "int" "list" = some false := rfl
theorem isB_int_tuple : isB "int" "tuple" = some false := rfl
theorem isB_int_dict : isB "int" "dict" = some false := rfl
theorem isB_str_int : isB "str" "int" = some false := rfl
theorem isB_str_bool : isB "str" "bool" = some false := rfl
theorem isB_str_str : isB "str" "str" = some true := rfl
theorem isB_str_list : isB "str" "list" = some false := rfl
theorem isB_str_tuple : isB "str" "tuple" = some false := rfl
theorem isB_str_dict : isB "str" "dict" = some false := rfl
theorem isB_list_int : isB "list" "int" = some false := rfl
theorem isB_list_bool : isB "list" "bool" = some false := rfl
theorem isB_list_str : isB "list" "str" = some false := rfl
theorem isB_list_list : isB "list" "list" = some true := rfl
theorem isB_list_tuple : isB "list" "tuple" = some false := rfl
theorem isB_list_dict : isB "list" "dict" = some false := rfl
theorem isB_tuple_int : isB "tuple" "int" = some false := rfl
theorem isB_tuple_bool : isB "tuple" "bool" = some false := rfl
theorem isB_tuple_str : isB "tuple" "str" = some false := rfl
theorem isB_tuple_list : isB "tuple" "list" = some false := rfl
theorem isB_tuple_tuple : isB "tuple" "tuple" = some true := rfl
theorem isB_tuple_dict : isB "tuple" "dict" = some false := rfl
theorem isB_dict_int : isB "dict" "int" = some false := rfl
theorem isB_dict_bool : isB "dict" "bool" = some false := rfl
theorem isB_dict_str : isB "dict" "str" = some false := rfl
theorem isB_dict_list : isB "dict" "list" = some false := rfl
theorem isB_dict_tuple : isB "dict" "tuple" = some false := rfl
theorem isB_dict_dict : isB "dict" "dict" = some true := rfl
theorem kind_NoneType  : D.kind .non = some "NoneType" := rfl
theorem kind_bool {b : Bool} : D.kind (.bl b) = some "bool" := rfl
theorem kind_int {i : Int} : D.kind (.int i) = some "int" := rfl
theorem kind_str {s : Str} : D.kind (.str s) = some "str" := rfl
theorem kind_list {ds : List D} : D.kind (.lst ds) = some "list" := rfl
theorem kind_tuple {ds : List D} : D.kind (.tup ds) = some "tuple" := rfl
theorem kind_dict {ds : List D} {ks : List Key} : D.kind (.dic ks ds) = some "dict" := rfl
/-! plain data -/
theorem p_int : D.pl (.int i) n = true := rfl
theorem p_non : D.pl .non n = true := rfl
theorem p_bl : D.pl (.bl b) n = true := rfl
theorem p_lst : D.pl (.lst ds) (n + 1) = (decide (ds.length < 16777216) && D.pls ds n) := rfl
theorem p_tup : D.pl (.tup ds) (n + 1) = (decide (ds.length < 16777216) && D.pls ds n) := rfl
theorem p_nil : D.pls [] n = true := rfl
theorem p_cons : D.pls (d :: ds) n = (d.pl n && D.pls ds n) := rfl
/-! what numbers decide -/
theorem v_ite_lt_t {γ : Type} {p q : γ} [Decidable (i < j)] (h : i < j) : (if i < j then p else q) = p := if_pos h
theorem v_ite_lt_f {γ : Type} {p q : γ} [Decidable (i < j)] (h : j ≤ i) : (if i < j then p else q) = q := if_neg (by omega)
theorem v_ite_le_t {γ : Type} {p q : γ} [Decidable (i ≤ j)] (h : i ≤ j) : (if i ≤ j then p else q) = p := if_pos h
theorem v_ite_le_f {γ : Type} {p q : γ} [Decidable (i ≤ j)] (h : j < i) : (if i ≤ j then p else q) = q := if_neg (by omega)
theorem v_ite_eq_t {γ : Type} {p q : γ} [Decidable (i = j)] (h : i = j) : (if i = j then p else q) = p := if_pos h
theorem v_ite_eq_f1 {γ : Type} {p q : γ} [Decidable (i = j)] (h : i < j) : (if i = j then p else q) = q := if_neg (by omega)
theorem v_ite_eq_f2 {γ : Type} {p q : γ} [Decidable (i = j)] (h : j < i) : (if i = j then p else q) = q := if_neg (by omega)
/-! chains -/
def chk3 (f' : T → T → DE) (dc : DE) (b : Bool) (d : D) : T → List T → ER T := fun z ρ3 => match z with
  | .imm _ (.bl true) => bnd (dc ρ3) (f' (.imm b d))
  | .imm _ (.bl false) => .ok (.imm false (.bl false)) ρ3
  | _ => .bad
def chk2 (f f' : T → T → DE) (dc : DE) (x : T) : T → List T → ER T := fun y ρ2 => match y with
  | .imm b d => bnd (f x (.imm b d) ρ2) (chk3 f' dc b d)
  | _ => .bad
def chk1 (f f' : T → T → DE) (db dc : DE) : T → List T → ER T := fun x ρ1 => bnd (db ρ1) (chk2 f f' dc x)
theorem v_Chain {f f' : T → T → DE} : dChain f f' da db dc ρ = bnd (da ρ) (chk1 f f' db dc) := rfl
theorem v_chk1 {f f' : T → T → DE} : chk1 f f' db dc t ρ = bnd (db ρ) (chk2 f f' dc t) := rfl
theorem v_chk2 {f f' : T → T → DE} : chk2 f f' dc t (.imm b d) ρ = bnd (f t (.imm b d) ρ) (chk3 f' dc b d) := rfl
theorem v_chk3_t {f' : T → T → DE} : chk3 f' dc b d (.imm b1 (.bl true)) ρ = bnd (dc ρ) (f' (.imm b d)) := rfl
theorem v_chk3_f {f' : T → T → DE} : chk3 f' dc b d (.imm b1 (.bl false)) ρ = .ok (.imm false (.bl false)) ρ := rfl
theorem v_chk3_d {f' : T → T → DE} : chk3 f' dc b d (.imm b1 (.bl (decide p))) ρ = if p then bnd (dc ρ) (f' (.imm b d)) else .ok (.imm false (.bl false)) ρ := by
  by_cases h : p <;> simp [h, chk3]
/-! items, slices -/
def okT (r : Option T) (ρ : List T) : ER T := match r with
  | some t => .ok t ρ
  | none => .bad
theorem v_okT : okT (some t) ρ = .ok t ρ := rfl
theorem v_fIx : fIx (.imm b d) (.imm b1 (.int i)) ρ = okT (gIx b d i) ρ := rfl
theorem v_gIx_lst : gIx b (.lst ds) i = (L2.atI ds i).map (itm b) := rfl
theorem v_gIx_tup : gIx b (.tup ds) i = (L2.atI ds i).map (itm b) := rfl
theorem v_gIx_scr {ns : List Int} : gIx b (.scr ns) i = (L2.atI ns i).map fun n => .imm false (.int n) := rfl
theorem v_itm_f : itm false d = .imm false d := rfl
theorem v_itm_int : itm b (.int i) = .imm false (.int i) := by unfold itm; cases b <;> rfl
theorem v_itm_non : itm b .non = .imm false .non := by unfold itm; cases b <;> rfl
theorem v_itm_lst : itm b (.lst ds) = .imm b (.lst ds) := by unfold itm; cases b <;> rfl
theorem v_itm_tup : itm b (.tup ds) = .imm b (.tup ds) := by unfold itm; cases b <;> rfl
theorem v_itm_str {s : Str} : itm b (.str s) = .imm false (.str s) := by unfold itm; cases b <;> rfl
def ixk3 : Option T → T → List T → ER T := fun s y ρ => match s, y with
  | some (.lstI ds), .imm _ (.int k) => okT ((L2.atI ds k).map (T.imm false)) ρ
  | _, _ => .bad
def ixk4 : Option T → T → List T → ER T := fun s y ρ => match s, y with
  | some (.imm b d), .imm _ (.int k) => okT (gIx b d k) ρ
  | _, _ => .bad
def ixk2 (n : Nat) : T → List T → ER T := fun y ρ => ixk3 ρ[n]? y ρ
def ixk2' (n : Nat) : T → List T → ER T := fun y ρ => ixk4 ρ[n]? y ρ
def ixk (n : Nat) (db : DE) (ρ : List T) : Option T → ER T
  | some (.lstI _) => bnd (db ρ) (ixk2 n)
  | some (.imm _ _) => bnd (db ρ) (ixk2' n)
  | _ => .bad
theorem v_ixV : dIxV n db ρ = ixk n db ρ ρ[n]? := by
  unfold dIxV ixk
  have h1 : (fun (y : T) (ρ1 : List T) => (match ρ1[n]?, y with
    | some (.lstI ds), .imm _ (.int k) => match L2.atI ds k with
      | some d => ER.ok (.imm false d) ρ1
      | none => .bad
    | _, _ => .bad)) = ixk2 n := by
    funext y ρ1
    unfold ixk2 ixk3
    cases e : ρ1[n]? with
    | none => rfl
    | some t =>
      cases t with
      | lstI ds =>
        cases y with
        | imm c d =>
          cases d with
          | int k =>
            simp only [okT]
            cases L2.atI ds k <;> rfl
          | _ => rfl
        | _ => rfl
      | _ => rfl
  have h2 : (fun (y : T) (ρ1 : List T) => (match ρ1[n]?, y with
    | some (.imm b d), .imm _ (.int k) => match gIx b d k with
      | some t => ER.ok t ρ1
      | none => .bad
    | _, _ => .bad)) = ixk2' n := by
    funext y ρ1
    unfold ixk2' ixk4
    rfl
  cases ρ[n]? with
  | none => rfl
  | some t =>
    cases t with
    | lstI ds => exact congrArg (ER.bind (db ρ)) h1
    | imm b d => exact congrArg (ER.bind (db ρ)) h2
    | _ => rfl
theorem v_ixk_lstI : ixk n db ρ (some (.lstI ds)) = bnd (db ρ) (ixk2 n) := rfl
theorem v_ixk_imm : ixk n db ρ (some (.imm b d)) = bnd (db ρ) (ixk2' n) := rfl
theorem v_ixk2 : ixk2 n t ρ = ixk3 ρ[n]? t ρ := rfl
theorem v_ixk2' : ixk2' n t ρ = ixk4 ρ[n]? t ρ := rfl
theorem v_ixk3 : ixk3 (some (.lstI ds)) (.imm b (.int i)) ρ = okT ((L2.atI ds i).map (T.imm false)) ρ := rfl
theorem v_ixk4 : ixk4 (some (.imm b1 d)) (.imm b (.int i)) ρ = okT (gIx b1 d i) ρ := rfl
theorem v_at0 {xs : List α} : L2.atI (a :: xs) 0 = some a := by
  have h := atI_nat (xs := a :: xs) (j := 0) (v := a) rfl
  simpa using h
theorem v_at1 {a1 : α} {xs : List α} : L2.atI (a :: a1 :: xs) 1 = some a1 := by
  have h := atI_nat (xs := a :: a1 :: xs) (j := 1) (v := a1) rfl
  simpa using h
theorem v_at2 {a1 a2 : α} {xs : List α} : L2.atI (a :: a1 :: a2 :: xs) 2 = some a2 := by
  have h := atI_nat (xs := a :: a1 :: a2 :: xs) (j := 2) (v := a2) rfl
  simpa using h
theorem v_at3 {a1 a2 a3 : α} {xs : List α} : L2.atI (a :: a1 :: a2 :: a3 :: xs) 3 = some a3 := by
  have h := atI_nat (xs := a :: a1 :: a2 :: a3 :: xs) (j := 3) (v := a3) rfl
  simpa using h
theorem v_at4 {a1 a2 a3 a4 : α} {xs : List α} : L2.atI (a :: a1 :: a2 :: a3 :: a4 :: xs) 4 = some a4 := by
  have h := atI_nat (xs := a :: a1 :: a2 :: a3 :: a4 :: xs) (j := 4) (v := a4) rfl
  simpa using h
theorem v_at5 {a1 a2 a3 a4 a5 : α} {xs : List α} : L2.atI (a :: a1 :: a2 :: a3 :: a4 :: a5 :: xs) 5 = some a5 := by
  have h := atI_nat (xs := a :: a1 :: a2 :: a3 :: a4 :: a5 :: xs) (j := 5) (v := a5) rfl
  simpa using h
theorem v_at6 {a1 a2 a3 a4 a5 a6 : α} {xs : List α} : L2.atI (a :: a1 :: a2 :: a3 :: a4 :: a5 :: a6 :: xs) 6 = some a6 := by
  have h := atI_nat (xs := a :: a1 :: a2 :: a3 :: a4 :: a5 :: a6 :: xs) (j := 6) (v := a6) rfl
  simpa using h
theorem v_at7 {a1 a2 a3 a4 a5 a6 a7 : α} {xs : List α} : L2.atI (a :: a1 :: a2 :: a3 :: a4 :: a5 :: a6 :: a7 :: xs) 7 = some a7 := by
  have h := atI_nat (xs := a :: a1 :: a2 :: a3 :: a4 :: a5 :: a6 :: a7 :: xs) (j := 7) (v := a7) rfl
  simpa using h
theorem v_at8 {a1 a2 a3 a4 a5 a6 a7 a8 : α} {xs : List α} : L2.atI (a :: a1 :: a2 :: a3 :: a4 :: a5 :: a6 :: a7 :: a8 :: xs) 8 = some a8 := by
  have h := atI_nat (xs := a :: a1 :: a2 :: a3 :: a4 :: a5 :: a6 :: a7 :: a8 :: xs) (j := 8) (v := a8) rfl
  simpa using h
theorem v_at9 {a1 a2 a3 a4 a5 a6 a7 a8 a9 : α} {xs : List α} : L2.atI (a :: a1 :: a2 :: a3 :: a4 :: a5 :: a6 :: a7 :: a8 :: a9 :: xs) 9 = some a9 := by
  have h := atI_nat (xs := a :: a1 :: a2 :: a3 :: a4 :: a5 :: a6 :: a7 :: a8 :: a9 :: xs) (j := 9) (v := a9) rfl
  simpa using h
theorem atI_ofNat {xs : List α} {i : Nat} (h : i < xs.length) : L2.atI xs (i : Int) = some xs[i] := by
  rw [atI_nat (List.getElem?_eq_getElem h)]
theorem atI_eq {xs : List α} {i : Int} (h1 : 0 ≤ i) (h2 : i < xs.length) : L2.atI xs i = xs[i.toNat]? := by
  obtain ⟨j, rfl⟩ := Int.eq_ofNat_of_zero_le h1
  rw [atI_ofNat (by omega), Int.toNat_natCast, List.getElem?_eq_getElem (by omega)]
def somek : T → List T → ER (Option Int) := fun x ρ => match x with
  | .imm _ (.int i) => .ok (some i) ρ
  | _ => .bad
theorem v_oNone : doNone ρ = .ok none ρ := rfl
theorem v_oSome : doSome de ρ = bnd (de ρ) somek := rfl
theorem v_somek : somek (.imm b (.int i)) ρ = .ok (some i) ρ := rfl
def slk3 (x : T) (l : Option Int) : Option Int → List T → ER T := fun h ρ => fSl x l h ρ
def slk2 (dh : DO) (x : T) : Option Int → List T → ER T := fun l ρ => bnd (dh ρ) (slk3 x l)
def slk (dl dh : DO) : T → List T → ER T := fun x ρ => bnd (dl ρ) (slk2 dh x)
section
variable {dl dh : DO} {l h : Option Int}
theorem v_Sl : dSl da dl dh ρ = bnd (da ρ) (slk dl dh) := rfl
theorem v_slk : slk dl dh t ρ = bnd (dl ρ) (slk2 dh t) := rfl
theorem v_slk2 : slk2 dh t l ρ = bnd (dh ρ) (slk3 t l) := rfl
theorem v_slk3 : slk3 t l h ρ = fSl t l h ρ := rfl
theorem v_fSl_lst : fSl (.imm false (.lst ds)) l h ρ = .ok (.lstI (cutD ds l h)) ρ := rfl
theorem v_fSl_tup : fSl (.imm b (.tup ds)) l h ρ = .ok (.imm b (.tup (cutD ds l h))) ρ := by cases b <;> rfl
theorem v_fSl_scr {ns : List Int} : fSl (.imm b (.scr ns)) l h ρ = .ok (.lstI ((cutD ns l h).map D.int)) ρ := by cases b <;> rfl
end
theorem v_cut_take {xs : List α} (h : 0 ≤ i) : cutD xs none (some i) = xs.take i.toNat := by
  obtain ⟨k, rfl⟩ := Int.eq_ofNat_of_zero_le h
  unfold cutD
  rw [HT.sIx_nat, HT.sIx_none, Int.toNat_natCast, List.drop_zero, Nat.sub_zero]
  by_cases hl : k ≤ xs.length
  · rw [Nat.min_eq_left hl]
  · rw [Nat.min_eq_right (by omega), List.take_length, List.take_of_length_le (by omega)]
theorem v_cut_drop {xs : List α} (h : 0 ≤ i) : cutD xs (some i) none = xs.drop i.toNat := by
  obtain ⟨k, rfl⟩ := Int.eq_ofNat_of_zero_le h
  unfold cutD
  rw [HT.sIx_nat, HT.sIx_none, Int.toNat_natCast]
  by_cases hl : k ≤ xs.length
  · rw [Nat.min_eq_left hl, List.take_of_length_le (by simp)]
  · rw [Nat.min_eq_right (by omega), List.drop_length, List.drop_of_length_le (by omega)]
    simp
theorem v_cut_mid {xs : List α} (h : 0 ≤ i) (h2 : i ≤ j) (h3 : j ≤ xs.length) : cutD xs (some i) (some j) = (xs.drop i.toNat).take (j - i).toNat := by
  obtain ⟨k, rfl⟩ := Int.eq_ofNat_of_zero_le h
  obtain ⟨m, rfl⟩ := Int.eq_ofNat_of_zero_le (show 0 ≤ j by omega)
  unfold cutD
  rw [HT.sIx_nat, HT.sIx_nat, Int.toNat_natCast, Nat.min_eq_left (by omega), Nat.min_eq_left (by omega)]
  congr 1
  omega
/-! changes of one's own lists -/
def appk3 (n : Nat) (ρ : List T) : Option T → Option (Bool × D) → ER T := fun s r => match s, r with
  | some (.lstI ds), some (false, d) => if ds.length < 16777216 then .ok (.imm false .non) (ρ.set n (.lstI (ds ++ [d]))) else .bad
  | _, _ => .bad
def appk2 (n : Nat) : T → List T → ER T := fun t ρ => appk3 n ρ ρ[n]? t.frz
def appk (n : Nat) (de : DE) (ρ : List T) : Option T → ER T
  | some (.lstI _) => bnd (de ρ) (appk2 n)
  | _ => .bad
theorem v_Append : dAppend n de ρ = appk n de ρ ρ[n]? := by
  unfold dAppend appk
  rfl
theorem v_appk : appk n de ρ (some (.lstI ds)) = bnd (de ρ) (appk2 n) := rfl
theorem v_appk2 : appk2 n t ρ = appk3 n ρ ρ[n]? t.frz := rfl
theorem v_appk3 (h : ds.length < 16777216) : appk3 n ρ (some (.lstI ds)) (some (false, d)) = .ok (.imm false .non) (ρ.set n (.lstI (ds ++ [d]))) := if_pos h
def clrk (n : Nat) (ρ : List T) : Option T → ER T
  | some (.lstI _) => .ok (.imm false .non) (ρ.set n (.lstI []))
  | _ => .bad
theorem v_Clear : dClear n ρ = clrk n ρ ρ[n]? := by
  unfold dClear clrk
  rfl
def rvsk (n : Nat) (ρ : List T) : Option T → ER T
  | some (.lstI ds) => .ok (.imm false .non) (ρ.set n (.lstI ds.reverse))
  | _ => .bad
theorem v_Reverse : dReverse n ρ = rvsk n ρ ρ[n]? := by
  unfold dReverse rvsk
  rfl
theorem v_rvsk : rvsk n ρ (some (.lstI ds)) = .ok (.imm false .non) (ρ.set n (.lstI ds.reverse)) := rfl
theorem v_Lr : dLr da ρ = bnd (da ρ) revk := rfl
theorem v_revk : revk (.imm false (.lst ds)) ρ = .ok (.lstI ds.reverse) ρ := rfl
theorem v_Tr : dTr da ρ = bnd (da ρ) tuprk := rfl
theorem v_tuprk : tuprk (.imm b (.tup ds)) ρ = .ok (.imm b (.tup ds.reverse)) ρ := rfl
theorem v_BitL : dBitL da ρ = bnd (da ρ) bitk := rfl
theorem v_bitk : bitk (.imm b (.int i)) ρ = .ok (.imm false (.int (Builtin.Int.intBits i : Nat))) ρ := rfl
theorem v_clrk : clrk n ρ (some (.lstI ds)) = .ok (.imm false .non) (ρ.set n (.lstI [])) := rfl
def popk (n : Nat) (ρ : List T) : Option T → ER T
  | some (.lstI ds) => (match ds.getLast? with
    | some d => .ok (.imm false d) (ρ.set n (.lstI ds.dropLast))
    | none => .bad)
  | _ => .bad
theorem v_Pop : dPop n ρ = popk n ρ ρ[n]? := by
  unfold dPop popk
  rfl
theorem v_popk : popk n ρ (some (.lstI (ds ++ [d]))) = .ok (.imm false d) (ρ.set n (.lstI ds)) := by
  unfold popk
  simp
def extk3 (n : Nat) (ρ : List T) : Option T → Option (Bool × D) → ER T := fun s r => match s, r with
  | some (.lstI ds), some (false, .lst es) => if ds.length + es.length ≤ 16777216 then .ok (.imm false .non) (ρ.set n (.lstI (ds ++ es))) else .bad
  | _, _ => .bad
def extk2 (n : Nat) : T → List T → ER T := fun t ρ => extk3 n ρ ρ[n]? t.frz
def extk (n : Nat) (de : DE) (ρ : List T) : Option T → ER T
  | some (.lstI _) => bnd (de ρ) (extk2 n)
  | _ => .bad
theorem v_Extend : dExtend n de ρ = extk n de ρ ρ[n]? := by
  unfold dExtend extk
  rfl
theorem v_extk : extk n de ρ (some (.lstI ds)) = bnd (de ρ) (extk2 n) := rfl
theorem v_extk2 : extk2 n t ρ = extk3 n ρ ρ[n]? t.frz := rfl
theorem v_extk3 (h : ds.length + es.length ≤ 16777216) : extk3 n ρ (some (.lstI ds)) (some (false, .lst es)) = .ok (.imm false .non) (ρ.set n (.lstI (ds ++ es))) := if_pos h
/-! loops, comprehensions -/
section
variable {dg : DG} {di : DI} {body : DS} {dt : DT} {own : List Nat}
def fork (dg : DG) (body : DS) (r : ER (Bool × List D)) : SR := match r with
  | .ok p ρ => forL dg body p.1 p.2 ρ
  | .exc e ρ => .exc e ρ
  | .bad => .bad
theorem v_For : dFor dg di body ρ = fork dg body (di ρ) := by
  unfold dFor fork
  cases di ρ <;> rfl
theorem v_fork : fork dg body (.ok (b, ds) ρ) = forL dg body b ds ρ := rfl
def forkk (dg : DG) (body : DS) (b : Bool) (ds : List D) (r : SR) : SR := match r with
  | .next ρ2 => forL dg body b ds ρ2
  | .cont ρ2 => forL dg body b ds ρ2
  | .brk ρ2 => .next ρ2
  | .ret t ρ2 => .ret t ρ2
  | .exc e ρ2 => .exc e ρ2
  | .bad => .bad
def forkg (dg : DG) (body : DS) (b : Bool) (ds : List D) (r : Option (List T)) : SR := match r with
  | none => .bad
  | some ρ1 => forkk dg body b ds (body ρ1)
theorem v_for_nil : forL dg body b [] ρ = .next ρ := rfl
theorem v_forkg : forkg dg body b ds (some ρ) = forkk dg body b ds (body ρ) := rfl
theorem v_forkk : forkk dg body b ds (.next ρ) = forL dg body b ds ρ := rfl
theorem v_forkk_cont : forkk dg body b ds (.cont ρ) = forL dg body b ds ρ := rfl
theorem v_forkk_brk : forkk dg body b ds (.brk ρ) = .next ρ := rfl
theorem v_forkk_ret : forkk dg body b ds (.ret t ρ) = .ret t ρ := rfl
theorem v_forkk_exc : forkk dg body b ds (.exc x ρ) = .exc x ρ := rfl
theorem v_iVal : diVal de ρ = bnd (de ρ) itemsOf := rfl
theorem v_items_lst : itemsOf (.imm b (.lst ds)) ρ = .ok (b, ds) ρ := rfl
theorem v_items_tup : itemsOf (.imm b (.tup ds)) ρ = .ok (b, ds) ρ := rfl
theorem v_items_scr {ns : List Int} : itemsOf (.imm b (.scr ns)) ρ = .ok (b, ns.map D.int) ρ := rfl
theorem v_iRange1 : diRange1 dr ρ = bnd (dr ρ) rangeItems1 := rfl
theorem v_iRange3 : diRange3 dr ρ = bnd (dr ρ) rangeItems3 := rfl
theorem v_iRange2 : diRange2 dr ρ = bnd (dr ρ) rangeItems2 := rfl
theorem v_range1 (h1 : -16777216 < i) (h2 : i < 16777216) : rangeItems1 [.imm b (.int i)] ρ = .ok (false, rangeD 0 i.toNat) ρ := if_pos ⟨h1, h2⟩
theorem v_range2 (h1 : -4611686018427387904 ≤ i) (h2 : i < 4611686018427387904) (h3 : -4611686018427387904 ≤ j) (h4 : j < 4611686018427387904) (h5 : j - i ≤ 16777216) : rangeItems2 [.imm b (.int i), .imm b1 (.int j)] ρ = .ok (false, rangeD i (j - i).toNat) ρ := if_pos ⟨h1, h2, h3, h4, h5⟩
theorem v_rangeD0 : rangeD i 0 = [] := rfl
theorem v_iRev : diRev de ρ = bnd (de ρ) revItems := rfl
theorem v_rev_lst : revItems (.imm b (.lst ds)) ρ = .ok (b, ds.reverse) ρ := rfl
theorem v_rev_tup : revItems (.imm b (.tup ds)) ρ = .ok (b, ds.reverse) ρ := rfl
def lcf (own : List Nat) (r : ER (List D)) : ER T := match r with
  | .ok r ρ2 => .ok (.lstI r) (killL own ρ2)
  | _ => .bad
def lck (own : List Nat) (dg : DG) (dt : DT) (de : DE) : Bool × List D → List T → ER T := fun p ρ => lcf own (compL dg dt de own p.1 p.2 (killL own ρ))
theorem v_Lc : dLc own dg di dt de ρ = bnd (di ρ) (lck own dg dt de) := by
  unfold dLc bnd ER.bind lck lcf
  cases di ρ with
  | ok p ρ1 =>
    all_goals (try simp only)
    all_goals (cases compL dg dt de own p.1 p.2 (killL own ρ1) <;> rfl)
  | exc e ρ => rfl
  | bad => rfl
theorem v_lck : lck own dg dt de (b, ds) ρ = lcf own (compL dg dt de own b ds (killL own ρ)) := rfl
theorem v_lcf : lcf own (.ok ds ρ) = .ok (.lstI ds) (killL own ρ) := rfl
theorem v_kill0 : killL [] ρ = ρ := rfl
theorem v_killS {ns : List Nat} : killL (n :: ns) ρ = killL ns (ρ.set n .dead) := rfl
def ck4 (d : D) (r : ER (List D)) : ER (List D) := match r with
  | .ok r ρ4 => .ok (d :: r) ρ4
  | _ => .bad
def ck3 (dg : DG) (dt : DT) (de : DE) (own : List Nat) (b : Bool) (ds : List D) (f : Option (Bool × D)) (ρ : List T) : ER (List D) := match f with
  | some (false, e) => ck4 e (compL dg dt de own b ds (killL own ρ))
  | _ => .bad
def ck2 (dg : DG) (dt : DT) (de : DE) (own : List Nat) (b : Bool) (ds : List D) (r : ER T) : ER (List D) := match r with
  | .ok t ρ => ck3 dg dt de own b ds t.frz ρ
  | _ => .bad
def ckb (x : Bool) (dg : DG) (dt : DT) (de : DE) (own : List Nat) (b : Bool) (ds : List D) (ρ : List T) : ER (List D) :=
  if x = true then ck2 dg dt de own b ds (de ρ) else compL dg dt de own b ds (killL own ρ)
def ck1 (dg : DG) (dt : DT) (de : DE) (own : List Nat) (b : Bool) (ds : List D) (r : ER Bool) : ER (List D) := match r with
  | .ok x ρ => ckb x dg dt de own b ds ρ
  | _ => .bad
def ckg (dg : DG) (dt : DT) (de : DE) (own : List Nat) (b : Bool) (ds : List D) (r : Option (List T)) : ER (List D) := match r with
  | some ρ => ck1 dg dt de own b ds (dt ρ)
  | none => .bad
theorem v_comp_nil : compL dg dt de own b [] ρ = .ok [] ρ := rfl
theorem v_ckg : ckg dg dt de own b ds (some ρ) = ck1 dg dt de own b ds (dt ρ) := rfl
theorem v_ck1_t : ck1 dg dt de own b ds (.ok true ρ) = ck2 dg dt de own b ds (de ρ) := rfl
theorem v_ck1_f : ck1 dg dt de own b ds (.ok false ρ) = compL dg dt de own b ds (killL own ρ) := rfl
theorem v_ck2 : ck2 dg dt de own b ds (.ok t ρ) = ck3 dg dt de own b ds t.frz ρ := rfl
theorem v_ck3 : ck3 dg dt de own b ds (some (false, e)) ρ = ck4 e (compL dg dt de own b ds (killL own ρ)) := rfl
theorem v_ck4 : ck4 d (.ok ds ρ) = .ok (d :: ds) ρ := rfl
end
end
/-! lists of own things -/
section
variable {α β : Type} {ρ : List T} {da db dc de dj dk : DE} {d : D} {b : Bool} {j : Int} {n jn : Nat} {ds : List D} {t u : T} {ts : List T} {dg : DG} {di : DI} {dt : DT} {own : List Nat}
theorem frz_some (h : frzs ts = some (b, ds)) : (T.lst ts).frz = some (b, .lst ds) := by rw [T.frz, h]
theorem frz_none (h : frzs ts = none) : (T.lst ts).frz = none := by rw [T.frz, h]
theorem v_obind {a : α} {f : α → Option β} : (some a).bind f = f a := rfl
theorem v_asO : asO (.lst ts) = some ts := rfl
theorem v_asO_nil : asO (.lstI []) = some [] := rfl
def frlk (ρ : List T) : Option (Bool × List D) → ER T
  | some (b, ds) => .ok (.imm b (.lst ds)) ρ
  | none => .bad
theorem v_frk_lst : frk (.lst ts) ρ = frlk ρ (frzs ts) := by
  cases e : frzs ts with
  | none =>
    unfold frk frlk
    simp only [frz_none e]
  | some q =>
    obtain ⟨b, ds⟩ := q
    unfold frk frlk
    simp only [frz_some e]
theorem v_frlk : frlk ρ (some (b, ds)) = .ok (.imm b (.lst ds)) ρ := rfl
def varl (n : Nat) (ρ : List T) : Option (Bool × List D) → ER T
  | some (b, ds) => .ok (.imm b (.lst ds)) (ρ.set n (.imm b (.lst ds)))
  | none => .bad
theorem v_vark_lst : vark n ρ (some (.lst ts)) = varl n ρ (frzs ts) := by
  cases e : frzs ts with
  | none =>
    unfold vark varl
    simp only [frz_none e]
  | some q =>
    obtain ⟨b, ds⟩ := q
    unfold vark varl
    simp only [frz_some e]
theorem v_varl : varl n ρ (some (b, ds)) = .ok (.imm b (.lst ds)) (ρ.set n (.imm b (.lst ds))) := rfl
def lendl (n : Nat) (de : DE) (ρ : List T) (ts : List T) : Option (Bool × List D) → ER T
  | some (_, ds) => lend2 n (.lst ts) ρ.length (de (ρ.set n (.imm true (.lst ds))))
  | none => .bad
theorem v_lendk_lst : lendk n de ρ (some (.lst ts)) = lendl n de ρ ts (frzs ts) := by
  cases e : frzs ts with
  | none =>
    unfold lendk lendl
    simp only [frz_none e]
  | some q =>
    obtain ⟨b, ds⟩ := q
    unfold lendk lendl
    simp only [frz_some e]
theorem v_lendl : lendl n de ρ ts (some (b, ds)) = lend2 n (.lst ts) ρ.length (de (ρ.set n (.imm true (.lst ds)))) := rfl
def lendtl (n : Nat) (dt : DT) (ρ : List T) (ts : List T) : Option (Bool × List D) → ER Bool
  | some (_, ds) => lendt2 n (.lst ts) ρ.length (dt (ρ.set n (.imm true (.lst ds))))
  | none => .bad
theorem v_lendtk_lst : lendtk n dt ρ (some (.lst ts)) = lendtl n dt ρ ts (frzs ts) := by
  cases e : frzs ts with
  | none =>
    unfold lendtk lendtl
    simp only [frz_none e]
  | some q =>
    obtain ⟨b, ds⟩ := q
    unfold lendtk lendtl
    simp only [frz_some e]
theorem v_lendtl : lendtl n dt ρ ts (some (b, ds)) = lendt2 n (.lst ts) ρ.length (dt (ρ.set n (.imm true (.lst ds)))) := rfl
def frzlk (b : Option (Bool × List D)) (r : Option (Bool × List D)) : Option (Bool × List D) := match b, r with
  | some (b, d), some (c, ds) => some (b || c, .lst d :: ds)
  | _, _ => none
theorem v_frzs_lst {us : List T} : frzs (.lst us :: ts) = frzlk (frzs us) (frzs ts) := by
  rw [frzs]
  cases e : frzs us with
  | none =>
    simp only [frz_none e]
    rfl
  | some q =>
    obtain ⟨b, ds⟩ := q
    simp only [frz_some e]
    cases frzs ts <;> rfl
theorem v_frzlk {b c : Bool} {ds es : List D} : frzlk (some (b, es)) (some (c, ds)) = some (b || c, .lst es :: ds) := rfl
def apo (n : Nat) (de : DE) (ρ : List T) : Option (List T) → ER T
  | some _ => bnd (de ρ) (pushk n)
  | none => .bad
theorem v_AppendO : dAppendO n de ρ = apo n de ρ ((ρ[n]?).bind asO) := by
  unfold dAppendO apo
  rfl
theorem v_apo : apo n de ρ (some ts) = bnd (de ρ) (pushk n) := rfl
def pushk3 (n : Nat) (t : T) (ρ : List T) : Option (List T) → ER T
  | some ts => if ts.length < 16777216 then .ok (.imm false .non) (ρ.set n (.lst (ts ++ [t]))) else .bad
  | none => .bad
theorem v_pushk : pushk n t ρ = pushk3 n t ρ ((ρ[n]?).bind asO) := by
  unfold pushk pushk3
  rfl
theorem v_pushk3 (h : ts.length < 16777216) : pushk3 n t ρ (some ts) = .ok (.imm false .non) (ρ.set n (.lst (ts ++ [t]))) := if_pos h
theorem v_PopO : dPopO n ρ = popk2 n ρ ((ρ[n]?).bind asO) := rfl
theorem v_popk2 : popk2 n ρ (some (ts ++ [t])) = .ok t (ρ.set n (.lst ts)) := by
  unfold popk2
  simp
def ap2a (n : Nat) (dj de : DE) (ρ : List T) : Option (List T) → ER T
  | some _ => bnd (dj ρ) (app2 n de)
  | none => .bad
theorem v_Append2 : dAppend2 n dj de ρ = ap2a n dj de ρ ((ρ[n]?).bind asO) := by
  unfold dAppend2 ap2a
  rfl
theorem v_ap2a : ap2a n dj de ρ (some ts) = bnd (dj ρ) (app2 n de) := rfl
def app2c (n : Nat) (de : DE) (ρ : List T) (ts : List T) : Option (Nat × List D) → ER T
  | some (jn, ds) => bnd (de (ρ.set n .dead)) (app3 n ts jn ds)
  | none => .bad
def app2b (n : Nat) (de : DE) (j : Int) (ρ : List T) : Option (List T) → ER T
  | some ts => app2c n de ρ ts (inner ts j)
  | none => .bad
theorem v_app2 : app2 n de (.imm b (.int j)) ρ = app2b n de j ρ ((ρ[n]?).bind asO) := by
  unfold app2 app2b app2c
  cases (ρ[n]?).bind asO with
  | none => rfl
  | some ts =>
    all_goals (try simp only)
    all_goals (cases inner ts j <;> rfl)
theorem v_app2b : app2b n de j ρ (some ts) = app2c n de ρ ts (inner ts j) := rfl
theorem v_app2c : app2c n de ρ ts (some (jn, ds)) = bnd (de (ρ.set n .dead)) (app3 n ts jn ds) := rfl
theorem v_app3 (h : ds.length < 16777216) (g : n < ρ.length) : app3 n ts jn ds (.imm false d) ρ = .ok (.imm false .non) (ρ.set n (.lst (ts.set jn (.lstI (ds ++ [d]))))) := if_pos ⟨h, g⟩
theorem v_app3_lstI {es : List D} (h : ds.length < 16777216) (g : n < ρ.length) : app3 n ts jn ds (.lstI es) ρ = .ok (.imm false .non) (ρ.set n (.lst (ts.set jn (.lstI (ds ++ [.lst es]))))) := if_pos ⟨h, g⟩
def forOk (n r : Nat) (body : DS) (ρ : List T) : Option (List T) → SR
  | some ts => forLO n r body 0 ts.length ρ
  | none => .bad
def six (n : Nat) (d : D) (k : Int) (ρ2 : List T) : Option T → SR
  | some (.lstI ds) => (match ixN ds.length k with
    | some j => .next (ρ2.set n (.lstI (ds.set j d)))
    | none => .bad)
  | _ => .bad
def sixa (n : Nat) (d : D) : ER T → SR
  | .ok (.imm _ (.int k)) ρ2 => six n d k ρ2 ρ2[n]?
  | _ => .bad
def six0 (n : Nat) (dk : DE) (ρ1 : List T) : Option T → Option (Bool × D) → SR
  | some (.lstI _), some (false, d) => sixa n d (dk ρ1)
  | _, _ => .bad
def sixk (n : Nat) (dk : DE) : T → List T → SR := fun t ρ1 => six0 n dk ρ1 ρ1[n]? t.frz
theorem v_SetIx : dSetIx n dk de ρ = exk (de ρ) (sixk n dk) := by
  show dEx de _ ρ = _
  unfold dEx exk
  cases de ρ with
  | bad => rfl
  | exc e ρ => rfl
  | ok t ρ1 =>
    simp only
    unfold sixk six0 sixa six
    cases ρ1[n]? with
    | none => rfl
    | some u =>
      cases u with
      | lstI ds =>
        cases t.frz with
        | none => rfl
        | some q =>
          obtain ⟨c, d⟩ := q
          cases c with
          | true => rfl
          | false =>
            all_goals (try simp only)
            all_goals (cases dk ρ1 with
              | bad => rfl
              | exc e ρ => rfl
              | ok y ρ2 =>
                cases y with
                | imm b dd =>
                  cases dd with
                  | int k =>
                    all_goals (try simp only)
                    all_goals (cases ρ2[n]? with
                      | none => rfl
                      | some u => cases u <;> rfl)
                  | _ => rfl
                | _ => rfl)
      | _ => rfl
theorem v_sixk : sixk n dk (.imm b d) ρ = six0 n dk ρ ρ[n]? (some (b, d)) := rfl
theorem v_sixk_lstI : sixk n dk (.lstI ds) ρ = six0 n dk ρ ρ[n]? (some (false, .lst ds)) := rfl
theorem v_six0 : six0 n dk ρ (some (.lstI ds)) (some (false, d)) = sixa n d (dk ρ) := rfl
theorem v_sixa : sixa n d (.ok (.imm b (.int j)) ρ) = six n d j ρ ρ[n]? := rfl
theorem v_six {k : Nat} (g : k < ds.length) : six n d (k : Nat) ρ (some (.lstI ds)) = .next (ρ.set n (.lstI (ds.set k d))) := by
  unfold six
  have e : ixN ds.length ((k : Nat) : Int) = some k := by
    unfold ixN
    rw [if_pos (by omega), if_pos (by omega)]; rfl
  simp only [e]
theorem v_ForO {r : Nat} {body : DS} : dForO n r body ρ = forOk n r body ρ ((ρ[n]?).bind asO) := by
  unfold dForO forOk
  rfl
theorem v_forOk {r : Nat} {body : DS} : forOk n r body ρ (some ts) = forLO n r body 0 ts.length ρ := rfl
def s2d (n : Nat) (d : D) (ts : List T) (jn : Nat) (ds : List D) : ER T → SR
  | .ok (.imm _ (.int k)) ρ3 => (match ixN ds.length k with
    | some kn => if n < ρ3.length then .next (ρ3.set n (.lst (ts.set jn (.lstI (ds.set kn d))))) else .bad
    | none => .bad)
  | _ => .bad
def s2c (n : Nat) (dk : DE) (d : D) (ts : List T) (ρ2 : List T) : Option (Nat × List D) → SR
  | some (jn, ds) => s2d n d ts jn ds (dk (ρ2.set n .dead))
  | none => .bad
def s2b (n : Nat) (dk : DE) (d : D) (j : Int) (ρ2 : List T) : Option (List T) → SR
  | some ts => s2c n dk d ts ρ2 (inner ts j)
  | none => .bad
def s2a (n : Nat) (dk : DE) (d : D) : ER T → SR
  | .ok (.imm _ (.int j)) ρ2 => s2b n dk d j ρ2 ((ρ2[n]?).bind asO)
  | _ => .bad
def s20 (n : Nat) (dj dk : DE) (ρ1 : List T) : Option (List T) → Option (Bool × D) → SR
  | some _, some (false, d) => s2a n dk d (dj ρ1)
  | _, _ => .bad
def set2k (n : Nat) (dj dk : DE) : T → List T → SR := fun t ρ1 => s20 n dj dk ρ1 ((ρ1[n]?).bind asO) t.frz
theorem v_SetIx2 : dSetIx2 n dj dk de ρ = exk (de ρ) (set2k n dj dk) := by
  show dEx de _ ρ = _
  unfold dEx exk
  cases de ρ with
  | bad => rfl
  | exc e ρ => rfl
  | ok t ρ1 =>
    simp only
    unfold set2k s20 s2a s2b s2c s2d
    cases (ρ1[n]?).bind asO with
    | none => rfl
    | some ts =>
      cases t.frz with
      | none => rfl
      | some q =>
        obtain ⟨c, d⟩ := q
        cases c with
        | true => rfl
        | false =>
          all_goals (try simp only)
          all_goals (cases dj ρ1 with
            | bad => rfl
            | exc e ρ => rfl
            | ok y ρ2 =>
              cases y with
              | imm b dd =>
                cases dd with
                | int j =>
                  all_goals (try simp only)
                  all_goals (cases (ρ2[n]?).bind asO with
                    | none => rfl
                    | some ts =>
                      all_goals (try simp only)
                      all_goals (cases inner ts j with
                        | none => rfl
                        | some q =>
                          obtain ⟨jn, ds⟩ := q
                          all_goals (try simp only)
                          all_goals (cases dk (ρ2.set n .dead) with
                            | bad => rfl
                            | exc e ρ => rfl
                            | ok z ρ3 =>
                              cases z with
                              | imm b dd => cases dd <;> rfl
                              | _ => rfl)))
                | _ => rfl
              | _ => rfl)
theorem v_set2k : set2k n dj dk (.imm b d) ρ = s20 n dj dk ρ ((ρ[n]?).bind asO) (some (b, d)) := rfl
theorem v_set2k_lstI : set2k n dj dk (.lstI ds) ρ = s20 n dj dk ρ ((ρ[n]?).bind asO) (some (false, .lst ds)) := rfl
theorem v_s20 : s20 n dj dk ρ (some ts) (some (false, d)) = s2a n dk d (dj ρ) := rfl
theorem v_s2a : s2a n dk d (.ok (.imm b (.int j)) ρ) = s2b n dk d j ρ ((ρ[n]?).bind asO) := rfl
theorem v_s2b : s2b n dk d j ρ (some ts) = s2c n dk d ts ρ (inner ts j) := rfl
theorem v_s2c : s2c n dk d ts ρ (some (jn, ds)) = s2d n d ts jn ds (dk (ρ.set n .dead)) := rfl
theorem v_s2d {k : Nat} (h : n < ρ.length) (g : k < ds.length) : s2d n d ts jn ds (.ok (.imm b (.int (k : Nat))) ρ) = .next (ρ.set n (.lst (ts.set jn (.lstI (ds.set k d))))) := by
  unfold s2d
  simp only
  have e : ixN ds.length ((k : Nat) : Int) = some k := by
    unfold ixN
    rw [if_pos (by omega), if_pos (by omega)]; rfl
  rw [e]
  simp only
  rw [if_pos h]
theorem v_s2d0 (h : n < ρ.length) (g : 0 < ds.length) : s2d n d ts jn ds (.ok (.imm b (.int 0)) ρ) = .next (ρ.set n (.lst (ts.set jn (.lstI (ds.set 0 d))))) := v_s2d (k := 0) h g
def lckO (own : List Nat) : ER (List T) → ER T
  | .ok r ρ2 => .ok (.lst r) (killL own ρ2)
  | _ => .bad
def lckO1 (own : List Nat) (dg : DG) (dt : DT) (de : DE) : Bool × List D → List T → ER T := fun p ρ => lckO own (compLO dg dt de own p.1 p.2 (killL own ρ))
theorem v_LcO : dLcO own dg di dt de ρ = bnd (di ρ) (lckO1 own dg dt de) := by
  unfold dLcO bnd ER.bind lckO1 lckO
  cases di ρ with
  | ok p ρ1 =>
    all_goals (try simp only)
    all_goals (cases compLO dg dt de own p.1 p.2 (killL own ρ1) <;> rfl)
  | exc e ρ => rfl
  | bad => rfl
theorem v_lckO1 : lckO1 own dg dt de (b, ds) ρ = lckO own (compLO dg dt de own b ds (killL own ρ)) := rfl
theorem v_lckO : lckO own (.ok ts ρ) = .ok (.lst ts) (killL own ρ) := rfl
theorem v_dOrd {i : Nat} {da : DE} : dOrd i da ρ = bnd (da ρ) (fOrd i) := rfl
def ordk (ρ : List T) : Option T → ER T
  | some r => .ok r ρ
  | none => .bad
theorem v_fOrd {i : Nat} {t : T} : fOrd i t ρ = ordk ρ (gOrd t ρ[i]?) := by
  unfold fOrd ordk
  cases gOrd t ρ[i]? <;> rfl
theorem v_ordk {r : T} : ordk ρ (some r) = .ok r ρ := rfl
theorem v_fSortI : fSortI [.imm b (.lst ds)] ρ = sortk ρ (D.ints ds) := rfl
theorem v_sortk {ns : List Int} : sortk ρ (some ns) = .ok (.lstI ((sortI ns).map D.int)) ρ := rfl
theorem v_dLstRg {da : DE} : dLstRg da ρ = bnd (da ρ) fLstRg := rfl
theorem v_fLstRg (h1 : 0 ≤ i) (h2 : i ≤ 16777216) : fLstRg (.imm b (.int i)) ρ = .ok (.lstI (rangeD 0 i.toNat)) ρ := if_pos ⟨h1, h2⟩
theorem v_dMinDef {z : Int} {da : DE} : dMinDef z da ρ = bnd (da ρ) (fMinDef z) := rfl
theorem v_fMinDef {z : Int} : fMinDef z (.imm b (.lst ds)) ρ = mindk z ρ (D.ints ds) := rfl
theorem v_mindk {z : Int} {ns : List Int} : mindk z ρ (some ns) = .ok (.imm false (.int (minDef z ns))) ρ := rfl
end
end Gb

namespace Gb
open PySem PySem.Spec L2
local macro_rules | `(tactic| walk_at "ev") => `(tactic| simp -implicitDefEqProofs (disch := first | omega | (simp -implicitDefEqProofs only [p_int, p_non, p_bl, p_lst, p_tup, p_nil, p_cons, List.length_cons, List.length_nil, Nat.reduceAdd, Nat.reduceLT, decide_true, Bool.and_self, Bool.true_and]; done) | (simp -implicitDefEqProofs only [List.length_map, List.length_append, List.length_reverse, List.length_range, List.length_replicate, List.length_cons, List.length_nil, List.length_take, List.length_drop, rangeD_length]; omega)) only [v_bnd, v_bnd_exc, v_bnd_bad, v_bnd_ite, v_d1, v_d2, v_d2k, v_okS, v_fS, v_gInt, v_gCmp, v_eq_int, v_ne_int, v_eq_bl, v_ne_bl, v_gLt_int, v_gLt_pair, v_eq_strS, v_eq_str, v_ne_strS, v_ne_str, v_eq_ni, v_eq_in, v_eq_nn, v_ne_ni, v_ne_in, v_ne_nn, v_is_non, v_is_bl, v_isnot_non, v_isnot_bl, v_isn_non, v_isn_bl, v_isn_int, v_isn_str, v_isn_lst, v_isn_tup, v_mod, v_div, v_mul_l, v_mul_r, v_mul_mm, v_pow, v_shl, v_shls, v_shl_mm, v_shr, v_add_int, v_add_str, v_add_lst, v_add_tup, v_mul_int, v_mul_lst, v_U, v_var, v_vark, v_vark_dicI, v_movk_dicI0, v_vark_lstI, v_move, v_movk, v_movk_lstI, v_movk_lst, v_Lend, v_tLend, v_lendtk, v_lendtk_lstI, v_lendt2, v_ListV, v_lsvk, v_lendk, v_lendk_lstI, v_lend2, v_noBs_nil, v_noBs, v_noB_imm, v_noB_dead, v_noB_lstI, v_noB_lst, v_C, v_Fr, v_frk, v_frk_lstI, v_Dic0, v_Dic1, v_fDic1, v_frk_dicI, v_isn_dic, v_Nil, v_Cons, v_consk, v_consk2, v_Tup, v_fTup, v_tupk, v_Lst, v_fLst, v_lstk, v_frzs_nil, v_frzs, v_frzs_dicI, v_frzs_lstI, v_frzk, v_frz, v_frz_lstI, v_Bi, v_Call, v_callk, v_after, v_after_exc, v_after_ite, v_Seq, v_seqk, v_seqk_ret, v_seqk_exc, v_seqk_brk, v_seqk_cont, v_seqk_ite, v_exk, v_exk_exc, v_exk_ite, v_Raise, v_Try, v_tryk, v_exD, v_IsE, v_isek, v_anyO_nil, v_anyO_t, v_anyO_f, v_isT_nil, v_isT, v_isT2, v_Xf, v_Pass, v_Break, v_Cont, v_Set, v_setk, v_Ret, v_retk, v_RetN, v_Drop, v_dropk, v_Asg, v_asgk, v_asgk2, v_gName, v_gTup, v_gNil, v_gCons, v_gck, v_If, v_ifk, v_ifk_exc, v_ifk_ite, v_iteS_t, v_iteS_f, v_iteS_d, v_iteS_n, v_tVal, v_asBool, v_tAnd, v_tandk_t, v_tandk_f, v_tandk_d, v_tOr, v_tork_t, v_tork_f, v_tork_d, v_tNot, v_tnotk, v_tYes, v_And, v_andk_t, v_andk_f, v_andk_d, v_Or, v_ork_f, v_ork_t, v_ork_d, v_Not, v_notk, v_IfE, v_ifek, v_ifek_ite, v_iteE_t, v_iteE_f, v_iteE_d, v_iteE_n, v_fin_next, v_fin_ret, v_fin_exc, v_fin_ite, v_mkFn, v_rep0, v_repS, v_fLen, v_lenk, v_len_lst, v_len_tup, v_len_scr, v_len_str, v_lenV, v_lenvk, v_lenvk_lstI, v_lenvk_lst, v_fMinP2, v_fMinP_1, v_fMinP_2, v_fRepr, v_reprk, v_fAbs, v_fMax2, v_fMin2, v_fInt, v_fInt_bl, v_fTuple_l, v_bfl_f, v_bfl_t, v_fTuple_t, v_fList_l, v_fList_t, v_fList_b, v_fList_s, v_fBools, v_blk, v_fSum, v_sumk, v_intList, v_ints_nil, v_ints, v_bools_nil, v_bools, v_consO, v_isi, v_isik, v_isik2, v_isit, v_isitk, v_isIn_nil, v_isIn, v_isInk_t, v_isInk_f, v_tyB, v_ite_lt_t, v_ite_lt_f, v_ite_le_t, v_ite_le_f, v_ite_eq_t, v_ite_eq_f1, v_ite_eq_f2, v_Chain, v_chk1, v_chk2, v_chk3_t, v_chk3_f, v_chk3_d, v_okT, v_fIx, v_gIx_lst, v_gIx_tup, v_gIx_scr, v_itm_f, v_itm_int, v_itm_non, v_itm_lst, v_itm_tup, v_itm_str, v_ixV, v_ixk_lstI, v_ixk_imm, v_ixk2, v_ixk2', v_ixk3, v_ixk4, v_at0, v_at1, v_at2, v_at3, v_at4, v_at5, v_at6, v_at7, v_at8, v_at9, v_oNone, v_oSome, v_somek, v_Sl, v_slk, v_slk2, v_slk3, v_fSl_lst, v_fSl_tup, v_fSl_scr, v_cut_take, v_cut_drop, v_cut_mid, v_Append, v_appk, v_appk2, v_appk3, v_Clear, v_Reverse, v_rvsk, v_Lr, v_revk, v_Tr, v_tuprk, v_BitL, v_bitk, v_clrk, v_Pop, v_popk, v_Extend, v_extk, v_extk2, v_extk3, v_For, v_fork, v_for_nil, v_forkg, v_forkk, v_forkk_cont, v_forkk_brk, v_forkk_ret, v_forkk_exc, v_iVal, v_items_lst, v_items_tup, v_items_scr, v_iRange1, v_iRange3, v_iRange2, v_range1, v_range2, v_rangeD0, v_iRev, v_rev_lst, v_rev_tup, v_Lc, v_lck, v_lcf, v_kill0, v_killS, v_comp_nil, v_ckg, v_ck1_t, v_ck1_f, v_ck2, v_ck3, v_ck4, v_obind, v_asO, v_asO_nil, v_frk_lst, v_frlk, v_vark_lst, v_varl, v_lendk_lst, v_lendl, v_lendtk_lst, v_lendtl, v_frzs_lst, v_frzlk, v_AppendO, v_apo, v_pushk, v_pushk3, v_PopO, v_popk2, v_Append2, v_ap2a, v_app2, v_app2b, v_app2c, v_app3, v_app3_lstI, v_SetIx, v_sixk, v_sixk_lstI, v_six0, v_sixa, v_six, v_ForO, v_forOk, v_SetIx2, v_set2k, v_set2k_lstI, v_s20, v_s2a, v_s2b, v_s2c, v_s2d, v_s2d0, v_LcO, v_lckO1, v_lckO, v_dOrd, v_fOrd, v_ordk, v_fSortI, v_sortk, v_dLstRg, v_fLstRg, v_dMinDef, v_fMinDef, v_mindk, isB_NoneType_int, isB_NoneType_bool, isB_NoneType_str, isB_NoneType_list, isB_NoneType_tuple, isB_NoneType_dict, isB_bool_int, isB_bool_bool, isB_bool_str, isB_bool_list, isB_bool_tuple, isB_bool_dict, isB_int_int, isB_int_bool, isB_int_str, isB_int_list, isB_int_tuple, isB_int_dict, isB_str_int, isB_str_bool, isB_str_str, isB_str_list, isB_str_tuple, isB_str_dict, isB_list_int, isB_list_bool, isB_list_str, isB_list_list, isB_list_tuple, isB_list_dict, isB_tuple_int, isB_tuple_bool, isB_tuple_str, isB_tuple_list, isB_tuple_tuple, isB_tuple_dict, isB_dict_int, isB_dict_bool, isB_dict_str, isB_dict_list, isB_dict_tuple, isB_dict_dict, kind_NoneType, kind_bool, kind_int, kind_str, kind_list, kind_tuple, kind_dict, List.getElem?_cons_zero, List.getElem?_cons_succ, List.getElem?_nil, List.set_cons_zero, List.set_cons_succ, List.length_cons, List.length_nil, List.cons_append, List.nil_append, List.append_nil, List.map_nil, List.map_cons, Nat.reduceAdd, Nat.reduceSub, Nat.reduceMul, Nat.reduceEqDiff, Nat.reduceLeDiff, Nat.zero_add, Nat.add_zero, Bool.not_true, Bool.not_false, Bool.and_true, Bool.true_and, Bool.and_false, Bool.false_and, Bool.or_true, Bool.true_or, Bool.or_false, Bool.false_or, Bool.not_not, Bool.and_self, Bool.or_self, Option.map_some, Option.map_none, decide_true, decide_false, reduceCtorEq, Bool.false_eq_true, List.all_nil, List.all_cons, id_eq, ↓reduceIte, if_true, if_false, beq_self_eq_true, Int.reduceAdd, Int.reduceSub, Int.reduceMul, Int.reduceNeg, Int.reduceLT, Int.reduceLE, Int.reduceEq, Int.reduceNe, Int.reduceToNat, Int.reduceMod, Int.reduceDiv, Int.reducePow, Nat.reducePow, Nat.reduceBEq, Int.toNat_natCast, Int.zero_add, Int.add_zero, Int.sub_zero, ne_eq, not_true_eq_false, not_false_eq_true, and_true, true_and, and_self, Nat.lt_irrefl, Int.natCast_eq_zero, decide_not, eqv_int, List.length_append, List.length_map, Int.cast_ofNat_Int, List.sum_cons, List.sum_nil, ints_map, bools_map])
local macro_rules | `(tactic| walk_at "ev*") => `(tactic| simp -implicitDefEqProofs (disch := first | omega | (simp -implicitDefEqProofs only [p_int, p_non, p_bl, p_lst, p_tup, p_nil, p_cons, List.length_cons, List.length_nil, Nat.reduceAdd, Nat.reduceLT, decide_true, Bool.and_self, Bool.true_and]; done) | (simp -implicitDefEqProofs only [List.length_map, List.length_append, List.length_reverse, List.length_range, List.length_replicate, List.length_cons, List.length_nil, List.length_take, List.length_drop, rangeD_length]; omega)) only [v_bnd, v_bnd_exc, v_bnd_bad, v_bnd_ite, v_d1, v_d2, v_d2k, v_okS, v_fS, v_gInt, v_gCmp, v_eq_int, v_ne_int, v_eq_bl, v_ne_bl, v_gLt_int, v_gLt_pair, v_eq_strS, v_eq_str, v_ne_strS, v_ne_str, v_eq_ni, v_eq_in, v_eq_nn, v_ne_ni, v_ne_in, v_ne_nn, v_is_non, v_is_bl, v_isnot_non, v_isnot_bl, v_isn_non, v_isn_bl, v_isn_int, v_isn_str, v_isn_lst, v_isn_tup, v_mod, v_div, v_mul_l, v_mul_r, v_mul_mm, v_pow, v_shl, v_shls, v_shl_mm, v_shr, v_add_int, v_add_str, v_add_lst, v_add_tup, v_mul_int, v_mul_lst, v_U, v_var, v_vark, v_vark_dicI, v_movk_dicI0, v_vark_lstI, v_move, v_movk, v_movk_lstI, v_movk_lst, v_Lend, v_tLend, v_lendtk, v_lendtk_lstI, v_lendt2, v_ListV, v_lsvk, v_lendk, v_lendk_lstI, v_lend2, v_noBs_nil, v_noBs, v_noB_imm, v_noB_dead, v_noB_lstI, v_noB_lst, v_C, v_Fr, v_frk, v_frk_lstI, v_Dic0, v_Dic1, v_fDic1, v_frk_dicI, v_isn_dic, v_Nil, v_Cons, v_consk, v_consk2, v_Tup, v_fTup, v_tupk, v_Lst, v_fLst, v_lstk, v_frzs_nil, v_frzs, v_frzs_dicI, v_frzs_lstI, v_frzk, v_frz, v_frz_lstI, v_Bi, v_Call, v_callk, v_after, v_after_exc, v_after_ite, v_Seq, v_seqk, v_seqk_ret, v_seqk_exc, v_seqk_brk, v_seqk_cont, v_seqk_ite, v_exk, v_exk_exc, v_exk_ite, v_Raise, v_Try, v_tryk, v_exD, v_IsE, v_isek, v_anyO_nil, v_anyO_t, v_anyO_f, v_isT_nil, v_isT, v_isT2, v_Xf, v_Pass, v_Break, v_Cont, v_Set, v_setk, v_Ret, v_retk, v_RetN, v_Drop, v_dropk, v_Asg, v_asgk, v_asgk2, v_gName, v_gTup, v_gNil, v_gCons, v_gck, v_If, v_ifk, v_ifk_exc, v_ifk_ite, v_iteS_t, v_iteS_f, v_iteS_d, v_iteS_n, v_tVal, v_asBool, v_tAnd, v_tandk_t, v_tandk_f, v_tandk_d, v_tOr, v_tork_t, v_tork_f, v_tork_d, v_tNot, v_tnotk, v_tYes, v_And, v_andk_t, v_andk_f, v_andk_d, v_Or, v_ork_f, v_ork_t, v_ork_d, v_Not, v_notk, v_IfE, v_ifek, v_ifek_ite, v_iteE_t, v_iteE_f, v_iteE_d, v_iteE_n, v_fin_next, v_fin_ret, v_fin_exc, v_fin_ite, v_mkFn, v_rep0, v_repS, v_fLen, v_lenk, v_len_lst, v_len_tup, v_len_scr, v_len_str, v_lenV, v_lenvk, v_lenvk_lstI, v_lenvk_lst, v_fMinP2, v_fMinP_1, v_fMinP_2, v_fRepr, v_reprk, v_fAbs, v_fMax2, v_fMin2, v_fInt, v_fInt_bl, v_fTuple_l, v_bfl_f, v_bfl_t, v_fTuple_t, v_fList_l, v_fList_t, v_fList_b, v_fList_s, v_fBools, v_blk, v_fSum, v_sumk, v_intList, v_ints_nil, v_ints, v_bools_nil, v_bools, v_consO, v_isi, v_isik, v_isik2, v_isit, v_isitk, v_isIn_nil, v_isIn, v_isInk_t, v_isInk_f, v_tyB, v_ite_lt_t, v_ite_lt_f, v_ite_le_t, v_ite_le_f, v_ite_eq_t, v_ite_eq_f1, v_ite_eq_f2, v_Chain, v_chk1, v_chk2, v_chk3_t, v_chk3_f, v_chk3_d, v_okT, v_fIx, v_gIx_lst, v_gIx_tup, v_gIx_scr, v_itm_f, v_itm_int, v_itm_non, v_itm_lst, v_itm_tup, v_itm_str, v_ixV, v_ixk_lstI, v_ixk_imm, v_ixk2, v_ixk2', v_ixk3, v_ixk4, v_at0, v_at1, v_at2, v_at3, v_at4, v_at5, v_at6, v_at7, v_at8, v_at9, v_oNone, v_oSome, v_somek, v_Sl, v_slk, v_slk2, v_slk3, v_fSl_lst, v_fSl_tup, v_fSl_scr, v_cut_take, v_cut_drop, v_cut_mid, v_Append, v_appk, v_appk2, v_appk3, v_Clear, v_Reverse, v_rvsk, v_Lr, v_revk, v_Tr, v_tuprk, v_BitL, v_bitk, v_clrk, v_Pop, v_popk, v_Extend, v_extk, v_extk2, v_extk3, v_For, v_fork, v_for_nil, v_forkg, v_forkk, v_forkk_cont, v_forkk_brk, v_forkk_ret, v_forkk_exc, v_iVal, v_items_lst, v_items_tup, v_items_scr, v_iRange1, v_iRange3, v_iRange2, v_range1, v_range2, v_rangeD0, v_iRev, v_rev_lst, v_rev_tup, v_Lc, v_lck, v_lcf, v_kill0, v_killS, v_comp_nil, v_ckg, v_ck1_t, v_ck1_f, v_ck2, v_ck3, v_ck4, v_obind, v_asO, v_asO_nil, v_frk_lst, v_frlk, v_vark_lst, v_varl, v_lendk_lst, v_lendl, v_lendtk_lst, v_lendtl, v_frzs_lst, v_frzlk, v_AppendO, v_apo, v_pushk, v_pushk3, v_PopO, v_popk2, v_Append2, v_ap2a, v_app2, v_app2b, v_app2c, v_app3, v_app3_lstI, v_SetIx, v_sixk, v_sixk_lstI, v_six0, v_sixa, v_six, v_ForO, v_forOk, v_SetIx2, v_set2k, v_set2k_lstI, v_s20, v_s2a, v_s2b, v_s2c, v_s2d, v_s2d0, v_LcO, v_lckO1, v_lckO, v_dOrd, v_fOrd, v_ordk, v_fSortI, v_sortk, v_dLstRg, v_fLstRg, v_dMinDef, v_fMinDef, v_mindk, isB_NoneType_int, isB_NoneType_bool, isB_NoneType_str, isB_NoneType_list, isB_NoneType_tuple, isB_NoneType_dict, isB_bool_int, isB_bool_bool, isB_bool_str, isB_bool_list, isB_bool_tuple, isB_bool_dict, isB_int_int, isB_int_bool, isB_int_str, isB_int_list, isB_int_tuple, isB_int_dict, isB_str_int, isB_str_bool, isB_str_str, isB_str_list, isB_str_tuple, isB_str_dict, isB_list_int, isB_list_bool, isB_list_str, isB_list_list, isB_list_tuple, isB_list_dict, isB_tuple_int, isB_tuple_bool, isB_tuple_str, isB_tuple_list, isB_tuple_tuple, isB_tuple_dict, isB_dict_int, isB_dict_bool, isB_dict_str, isB_dict_list, isB_dict_tuple, isB_dict_dict, kind_NoneType, kind_bool, kind_int, kind_str, kind_list, kind_tuple, kind_dict, List.getElem?_cons_zero, List.getElem?_cons_succ, List.getElem?_nil, List.set_cons_zero, List.set_cons_succ, List.length_cons, List.length_nil, List.cons_append, List.nil_append, List.append_nil, List.map_nil, List.map_cons, Nat.reduceAdd, Nat.reduceSub, Nat.reduceMul, Nat.reduceEqDiff, Nat.reduceLeDiff, Nat.zero_add, Nat.add_zero, Bool.not_true, Bool.not_false, Bool.and_true, Bool.true_and, Bool.and_false, Bool.false_and, Bool.or_true, Bool.true_or, Bool.or_false, Bool.false_or, Bool.not_not, Bool.and_self, Bool.or_self, Option.map_some, Option.map_none, decide_true, decide_false, reduceCtorEq, Bool.false_eq_true, List.all_nil, List.all_cons, id_eq, ↓reduceIte, if_true, if_false, beq_self_eq_true, Int.reduceAdd, Int.reduceSub, Int.reduceMul, Int.reduceNeg, Int.reduceLT, Int.reduceLE, Int.reduceEq, Int.reduceNe, Int.reduceToNat, Int.reduceMod, Int.reduceDiv, Int.reducePow, Nat.reducePow, Nat.reduceBEq, Int.toNat_natCast, Int.zero_add, Int.add_zero, Int.sub_zero, ne_eq, not_true_eq_false, not_false_eq_true, and_true, true_and, and_self, Nat.lt_irrefl, Int.natCast_eq_zero, decide_not, eqv_int, List.length_append, List.length_map, Int.cast_ofNat_Int, List.sum_cons, List.sum_nil, ints_map, bools_map, *])
theorem all_true (n : Nat) : (List.replicate n true).all id = true := by simp
end Gb

namespace Gb
open PySem PySem.Spec L2
/-! pictures as rows of cells -/
abbrev Cell := Option Nat
def cellD : Cell → D
  | none => .non
  | some i => .int i
def rowD (r : List Cell) : D := .lst (r.map cellD)
def rowsD (rs : List (List Cell)) : D := .lst (rs.map rowD)
def clr (c : Cell) : Nat := c.getD 0
def okc (c : Cell) : Prop := clr c < 16
def pnt : List Cell → Nat
  | [] => 0
  | c :: r => 2 ^ 4 * pnt r + clr c
def msk : List Cell → Nat
  | [] => 0
  | c :: r => 2 ^ 1 * msk r + c.isSome.toNat
def picD (w : Nat) (rs : List (List Cell)) : D := .tup [.int w, .int rs.length, .tup (rs.map fun r => .int (pnt r)), .tup (rs.map fun r => .int (msk r))]
/-- the cell at a place of a row, a hole off it -/
def at? (r : List Cell) (i : Nat) : Cell := (r[i]?).getD none
@[simp] theorem at_nil {i : Nat} : at? [] i = none := rfl
@[simp] theorem at_zero {c : Cell} {r : List Cell} : at? (c :: r) 0 = c := rfl
@[simp] theorem at_succ {c : Cell} {r : List Cell} {i : Nat} : at? (c :: r) (i + 1) = at? r i := rfl
theorem clr_lt {c : Cell} (h : okc c) : clr c < 2 ^ 4 := h
theorem okc_none : okc none := by show 0 < 16; omega
theorem okc_at {r : List Cell} (h : ∀ c ∈ r, okc c) (i : Nat) : okc (at? r i) := by
  unfold at?
  cases e : r[i]? with
  | none => exact okc_none
  | some c => exact h c (List.mem_of_getElem? e)
theorem pnt_bit : ∀ (r : List Cell) (i : Nat), (∀ c ∈ r, okc c) → (pnt r).testBit i = (clr (at? r (i / 4))).testBit (i % 4)
  | [], i, _ => by
    show Nat.testBit 0 i = Nat.testBit 0 _
    rw [Nat.zero_testBit, Nat.zero_testBit]
  | c :: r, i, h => by
    unfold pnt
    rw [Nat.testBit_two_pow_mul_add _ (clr_lt (h c (by simp)))]
    by_cases hi : i < 4
    · rw [if_pos hi, show i / 4 = 0 by omega, show i % 4 = i by omega]; rfl
    · rw [if_neg hi, pnt_bit r (i - 4) fun c hc => h c (by simp [hc])]
      obtain ⟨k, hk⟩ : ∃ k, i / 4 = k + 1 := ⟨i / 4 - 1, by omega⟩
      rw [hk, at_succ, show (i - 4) / 4 = k by omega, show (i - 4) % 4 = i % 4 by omega]
theorem msk_bit : ∀ (r : List Cell) (i : Nat), (msk r).testBit i = (at? r i).isSome
  | [], i => Nat.zero_testBit i
  | c :: r, i => by
    unfold msk
    rw [Nat.testBit_two_pow_mul_add _ (show c.isSome.toNat < 2 ^ 1 by cases c <;> simp)]
    cases i with
    | zero =>
      rw [if_pos (by omega)]
      show _ = c.isSome
      cases c <;> simp
    | succ i =>
      rw [if_neg (by omega), at_succ, show i + 1 - 1 = i by omega, msk_bit r i]
theorem pnt_at {r : List Cell} (h : ∀ c ∈ r, okc c) (i k : Nat) (hk : k < 4) : (pnt r).testBit (4 * i + k) = (clr (at? r i)).testBit k := by
  rw [pnt_bit r _ h, show (4 * i + k) / 4 = i by omega, show (4 * i + k) % 4 = k by omega]
/-- the row of a function -/
def rowOf (w : Nat) (f : Nat → Cell) : List Cell := (List.range w).map f
@[simp] theorem rowOf_length {w : Nat} {f : Nat → Cell} : (rowOf w f).length = w := by simp [rowOf]
theorem at_rowOf {w : Nat} {f : Nat → Cell} {i : Nat} : at? (rowOf w f) i = if i < w then f i else none := by
  unfold at? rowOf
  by_cases h : i < w
  · rw [if_pos h, List.getElem?_map, List.getElem?_range h]; rfl
  · rw [if_neg h, List.getElem?_eq_none (by simp; omega)]; rfl
theorem okc_rowOf {w : Nat} {f : Nat → Cell} (h : ∀ i, okc (f i)) : ∀ c ∈ rowOf w f, okc c := fun c hc => by
  obtain ⟨i, _, rfl⟩ := List.mem_map.mp hc
  exact h i
theorem at_none {r : List Cell} {i : Nat} (h : r.length ≤ i) : at? r i = none := by
  unfold at?
  rw [List.getElem?_eq_none h]; rfl
theorem row_ext {r s : List Cell} (l : r.length = s.length) (h : ∀ i, at? r i = at? s i) : r = s := by
  refine List.ext_getElem l fun i h1 h2 => ?_
  have e := h i
  unfold at? at e
  rw [List.getElem?_eq_getElem h1, List.getElem?_eq_getElem h2] at e
  exact e
theorem pnt_lt {r : List Cell} (h : ∀ c ∈ r, okc c) {w : Nat} (hl : r.length ≤ w) : pnt r < 2 ^ (4 * w) := by
  refine Nat.lt_pow_two_of_testBit _ fun i hi => ?_
  rw [pnt_bit r i h, at_none (by omega)]
  exact Nat.zero_testBit _
theorem msk_lt {r : List Cell} {w : Nat} (hl : r.length ≤ w) : msk r < 2 ^ w := by
  refine Nat.lt_pow_two_of_testBit _ fun i hi => ?_
  rw [msk_bit r i, at_none (by omega)]
  rfl
/-! bits -/
theorem band_nat (a b : Nat) : Builtin.bitAnd (a : Int) (b : Int) = ((a &&& b : Nat) : Int) := PySem.W.os_band a b
theorem shr_nat (a k : Nat) : (a : Int) / 2 ^ k = ((a >>> k : Nat) : Int) := by
  rw [Nat.shiftRight_eq_div_pow]
  simp
theorem bor_nat (a b : Nat) : Builtin.bitOr (a : Int) (b : Int) = ((a ||| b : Nat) : Int) := by
  have hn : ∀ n : Nat, Builtin.bitNot (n : Int) = -(n : Int) - 1 := fun n => rfl
  unfold Builtin.bitOr
  rw [hn, hn, PyProof.Rows.bitAnd_nn (by omega) (by omega)]
  simp only [Builtin.bitNot]
  rw [show (-(-(a : Int) - 1) - 1).toNat = a by omega, show (-(-(b : Int) - 1) - 1).toNat = b by omega]
  omega
/-! cuts -/
def cellAt (r : List Cell) (z : Int) : Cell := if 0 ≤ z then at? r z.toNat else none
def lookC (rs : List (List Cell)) (x y : Int) : Cell := if 0 ≤ y then cellAt ((rs[y.toNat]?).getD []) x else none
structure Rect (rs : List (List Cell)) (w h : Nat) : Prop where
  len : rs.length = h
  row : ∀ r ∈ rs, r.length = w ∧ ∀ c ∈ r, okc c
  h1 : 1 ≤ h
  w1 : 1 ≤ w
  h64 : h ≤ 64
  w64 : w ≤ 64
theorem okc_cellAt {r : List Cell} (h : ∀ c ∈ r, okc c) (z : Int) : okc (cellAt r z) := by
  unfold cellAt
  split
  · exact okc_at h _
  · exact okc_none
theorem Rect.okc {rs : List (List Cell)} {w h : Nat} (R : Rect rs w h) (x y : Int) : okc (lookC rs x y) := by
  unfold lookC
  split
  · cases e : rs[y.toNat]? with
    | none => exact okc_cellAt (fun c hc => by simp at hc) _
    | some r => exact okc_cellAt (R.row r (List.mem_of_getElem? e)).2 _
  · exact okc_none
def cutR (rs : List (List Cell)) (x y : Int) (w h : Nat) : List (List Cell) := (List.range h).map fun (j : Nat) => rowOf w fun i => lookC rs (x + i) (y + j)
theorem cutR_at {rs : List (List Cell)} {x y : Int} {w h j : Nat} : (cutR rs x y w h)[j]? = if j < h then some (rowOf w fun i => lookC rs (x + i) (y + j)) else none := by
  unfold cutR
  rw [List.getElem?_map]
  by_cases hj : j < h
  · rw [if_pos hj, List.getElem?_range hj]; rfl
  · rw [if_neg hj, List.getElem?_eq_none (by simp; omega)]; rfl
theorem lookC_at {rs : List (List Cell)} {j : Nat} {r : List Cell} (h : rs[j]? = some r) (i : Nat) : lookC rs (i : Int) (j : Int) = at? r i := by
  unfold lookC cellAt
  rw [if_pos (by omega), if_pos (by omega), Int.toNat_natCast, Int.toNat_natCast, h]; rfl
theorem cut_self {rs : List (List Cell)} {w h : Nat} (R : Rect rs w h) : cutR rs 0 0 w h = rs := by
  refine List.ext_getElem? fun j => ?_
  rw [cutR_at]
  by_cases hj : j < h
  · have hj' : j < rs.length := by rw [R.len]; exact hj
    rw [if_pos hj, List.getElem?_eq_getElem hj']
    have Rr := R.row _ (List.getElem_mem hj')
    refine congrArg some (row_ext (by rw [rowOf_length, Rr.1]) fun i => ?_)
    rw [at_rowOf]
    by_cases hi : i < w
    · rw [if_pos hi, Int.zero_add, Int.zero_add, lookC_at (List.getElem?_eq_getElem hj')]
    · rw [if_neg hi, at_none (by rw [Rr.1]; omega)]
  · rw [if_neg hj, List.getElem?_eq_none (by rw [R.len]; omega)]
end Gb

namespace Gb
open PySem PySem.Spec L2
section
variable {dg : DG} {body : DS} {b : Bool} {P : Nat → List T → Prop} {R : T → List T → Prop}
end
/-! the lowest bit -/
theorem and_one (n i : Nat) : Builtin.bitAnd ((n >>> i : Nat) : Int) 1 = if n.testBit i then 1 else 0 := by
  rw [show (1 : Int) = ((1 : Nat) : Int) from rfl, band_nat, Nat.and_comm]
  unfold Nat.testBit
  rw [Nat.and_comm, Nat.and_one_is_mod]
  have : n >>> i % 2 = 0 ∨ n >>> i % 2 = 1 := by omega
  rcases this with e | e <;> rw [e] <;> rfl
/-! where two pictures touch -/
def First (B : Int → Int → Prop) : Option (Int × Int) → Prop
  | none => ∀ X Y, ¬ B X Y
  | some p => B p.1 p.2 ∧ ∀ X Y, B X Y → p.2 < Y ∨ (p.2 = Y ∧ p.1 ≤ X)
theorem First.uniq {B : Int → Int → Prop} : ∀ {o o' : Option (Int × Int)}, First B o → First B o' → o = o'
  | none, none, _, _ => rfl
  | none, some p, h, g => absurd g.1 (h _ _)
  | some p, none, h, g => absurd h.1 (g _ _)
  | some p, some q, h, g => by
    have a := h.2 _ _ g.1
    have b := g.2 _ _ h.1
    have e1 : p.1 = q.1 := by omega
    have e2 : p.2 = q.2 := by omega
    rw [show p = q from Prod.ext e1 e2]
theorem lookC_some {rs : List (List Cell)} {w h : Nat} (R : Rect rs w h) {x y : Int} (e : (lookC rs x y).isSome = true) : 0 ≤ x ∧ x < w ∧ 0 ≤ y ∧ y < h := by
  unfold lookC cellAt at e
  by_cases hy : 0 ≤ y
  · rw [if_pos hy] at e
    by_cases hx : 0 ≤ x
    · rw [if_pos hx] at e
      unfold at? at e
      cases er : rs[y.toNat]? with
      | none => rw [er] at e; simp at e
      | some r =>
        have hl := (List.getElem?_eq_some_iff.mp er).1
        rw [R.len] at hl
        rw [er] at e
        simp only [Option.getD_some] at e
        have hr := R.row r (List.mem_of_getElem? er)
        cases ec : r[x.toNat]? with
        | none => rw [ec] at e; simp at e
        | some c =>
          have hc := (List.getElem?_eq_some_iff.mp ec).1
          rw [hr.1] at hc
          omega
    · rw [if_neg hx] at e; simp at e
  · rw [if_neg hy] at e; simp at e
/-! a row's bits, one cell more -/
theorem pnt_snoc : ∀ (l : List Cell) (c : Cell), pnt (l ++ [c]) = pnt l + 2 ^ (4 * l.length) * clr c
  | [], c => by simp [pnt]
  | a :: l, c => by
    rw [List.cons_append]
    unfold pnt
    rw [pnt_snoc l c, List.length_cons, show 4 * (l.length + 1) = 4 + 4 * l.length by omega, Nat.pow_add, Nat.mul_add, Nat.mul_assoc]
    omega
theorem msk_snoc : ∀ (l : List Cell) (c : Cell), msk (l ++ [c]) = msk l + 2 ^ l.length * c.isSome.toNat
  | [], c => by simp [msk]
  | a :: l, c => by
    rw [List.cons_append]
    unfold msk
    rw [msk_snoc l c, List.length_cons, show l.length + 1 = 1 + l.length by omega, Nat.pow_add, Nat.mul_add, Nat.mul_assoc]
    omega
theorem or_add {a b i : Nat} (h : b < 2 ^ i) : b ||| a * 2 ^ i = b + 2 ^ i * a := by
  rw [Nat.or_comm, Nat.mul_comm a, ← Nat.two_pow_add_eq_or_of_lt h a, Nat.add_comm]
theorem pnt_or {l : List Cell} (h : ∀ c ∈ l, okc c) (n : Nat) : Builtin.bitOr ((pnt l : Nat) : Int) ((n : Int) * 2 ^ (4 * (l.length : Int)).toNat) = ((pnt (l ++ [some n]) : Nat) : Int) := by
  rw [show (4 * (l.length : Int)).toNat = 4 * l.length by omega, show (n : Int) * 2 ^ (4 * l.length) = ((n * 2 ^ (4 * l.length) : Nat) : Int) by simp, bor_nat, or_add (pnt_lt h (Nat.le_refl _)), pnt_snoc]
  rfl
theorem msk_or {l : List Cell} (n : Nat) : Builtin.bitOr ((msk l : Nat) : Int) (1 * 2 ^ l.length) = ((msk (l ++ [some n]) : Nat) : Int) := by
  rw [show (1 : Int) * 2 ^ l.length = ((1 * 2 ^ l.length : Nat) : Int) by simp, bor_nat, or_add (msk_lt (Nat.le_refl _)), msk_snoc]
  rfl
theorem pnt_hole {l : List Cell} : pnt (l ++ [none]) = pnt l := by
  rw [pnt_snoc]
  simp [clr]
theorem msk_hole {l : List Cell} : msk (l ++ [none]) = msk l := by
  rw [msk_snoc]
  simp
theorem itm_cell {c : Bool} {x : Cell} : itm c (cellD x) = .imm false (cellD x) := by
  cases x <;> simp [itm, cellD, D.flat]
theorem itm_row {c : Bool} {r : List Cell} : itm c (rowD r) = .imm c (rowD r) := by
  simp [itm, rowD, D.flat]
theorem gIx_row {c : Bool} {r : List Cell} {i : Nat} {x : Cell} (h : r[i]? = some x) : gIx c (rowD r) (i : Int) = some (.imm false (cellD x)) := by
  unfold rowD
  rw [v_gIx_lst, atI_eq (by omega) (by have := (List.getElem?_eq_some_iff.mp h).1; simp; omega), List.getElem?_map, Int.toNat_natCast, h]
  show some (itm c (cellD x)) = _
  rw [itm_cell]
theorem gIx_rows {c : Bool} {rs : List (List Cell)} {i : Nat} {r : List Cell} (h : rs[i]? = some r) : gIx c (rowsD rs) (i : Int) = some (.imm c (rowD r)) := by
  unfold rowsD
  rw [v_gIx_lst, atI_eq (by omega) (by have := (List.getElem?_eq_some_iff.mp h).1; simp; omega), List.getElem?_map, Int.toNat_natCast, h]
  show some (itm c (rowD r)) = _
  rw [itm_row]
theorem all_bl {α : Type} (xs : List α) : D.bools (xs.map fun _ => D.bl true) = some (List.replicate xs.length true) := by
  have : (xs.map fun _ => D.bl true) = (List.replicate xs.length true).map D.bl := by
    rw [List.map_const', List.map_replicate]
  rw [this, bools_map]
end Gb

namespace Gb
open PySem PySem.Spec L2
/-! turned and mirrored -/
theorem rect_ext {rs rs' : List (List Cell)} {w h : Nat} (R : Rect rs w h) (R' : Rect rs' w h) (e : ∀ x y, lookC rs x y = lookC rs' x y) : rs = rs' := by
  rw [← cut_self R, ← cut_self R']
  unfold cutR
  simp only [e]
def turnR (rs : List (List Cell)) (w h : Nat) : List (List Cell) := (List.range w).map fun (y : Nat) => rowOf h fun x => lookC rs (y : Int) ((h : Int) - 1 - x)
theorem Rect.turn {rs : List (List Cell)} {w h : Nat} (R : Rect rs w h) : Rect (turnR rs w h) h w where
  len := by simp [turnR]
  row := fun r hr => by
    obtain ⟨j, _, rfl⟩ := List.mem_map.mp hr
    exact ⟨rowOf_length, okc_rowOf fun i => R.okc _ _⟩
  h1 := R.w1
  w1 := R.h1
  w64 := R.h64
  h64 := R.w64
theorem lookC_none {rs : List (List Cell)} {w h : Nat} (R : Rect rs w h) {x y : Int} (q : x < 0 ∨ (w : Int) ≤ x ∨ y < 0 ∨ (h : Int) ≤ y) : lookC rs x y = none := by
  cases e : lookC rs x y with
  | none => rfl
  | some n =>
    have z := lookC_some R (x := x) (y := y) (by rw [e]; rfl)
    omega
theorem lookC_turn {rs : List (List Cell)} {w h : Nat} (R : Rect rs w h) (x y : Int) : lookC (turnR rs w h) x y = lookC rs y ((h : Int) - 1 - x) := by
  by_cases q : x < 0 ∨ (h : Int) ≤ x ∨ y < 0 ∨ (w : Int) ≤ y
  · rw [lookC_none R.turn (by omega), lookC_none R (by omega)]
  · obtain ⟨i, rfl⟩ := Int.eq_ofNat_of_zero_le (show 0 ≤ x by omega)
    obtain ⟨j, rfl⟩ := Int.eq_ofNat_of_zero_le (show 0 ≤ y by omega)
    have e : (turnR rs w h)[j]? = some (rowOf h fun x => lookC rs (j : Int) ((h : Int) - 1 - x)) := by
      unfold turnR
      rw [List.getElem?_map, List.getElem?_range (by omega)]; rfl
    rw [lookC_at e, at_rowOf, if_pos (by omega)]
def mirR (rs : List (List Cell)) : List (List Cell) := rs.map List.reverse
theorem Rect.mir {rs : List (List Cell)} {w h : Nat} (R : Rect rs w h) : Rect (mirR rs) w h where
  len := by simp [mirR, R.len]
  row := fun r hr => by
    obtain ⟨s, hs, rfl⟩ := List.mem_map.mp hr
    exact ⟨by rw [List.length_reverse, (R.row s hs).1], fun c hc => (R.row s hs).2 c (List.mem_reverse.mp hc)⟩
  h1 := R.h1
  w1 := R.w1
  w64 := R.w64
  h64 := R.h64
theorem lookC_mir {rs : List (List Cell)} {w h : Nat} (R : Rect rs w h) (x y : Int) : lookC (mirR rs) x y = lookC rs ((w : Int) - 1 - x) y := by
  by_cases q : x < 0 ∨ (w : Int) ≤ x ∨ y < 0 ∨ (h : Int) ≤ y
  · rw [lookC_none R.mir (by omega), lookC_none R (by omega)]
  · obtain ⟨i, rfl⟩ := Int.eq_ofNat_of_zero_le (show 0 ≤ x by omega)
    obtain ⟨j, rfl⟩ := Int.eq_ofNat_of_zero_le (show 0 ≤ y by omega)
    obtain ⟨r, hr⟩ : ∃ r, rs[j]? = some r := ⟨_, List.getElem?_eq_getElem (by rw [R.len]; omega)⟩
    have hl := (R.row r (List.mem_of_getElem? hr)).1
    have e : (mirR rs)[j]? = some r.reverse := by
      unfold mirR
      rw [List.getElem?_map, hr]; rfl
    rw [lookC_at e, show (w : Int) - 1 - (i : Int) = ((w - 1 - i : Nat) : Int) by omega, lookC_at hr]
    unfold at?
    rw [List.getElem?_reverse (by omega), hl]
structure Pc where
  rs : List (List Cell)
  w : Nat
  h : Nat
def Pc.G (X : Pc) : Prop := Rect X.rs X.w X.h
def Pc.t (X : Pc) : Pc := ⟨turnR X.rs X.w X.h, X.h, X.w⟩
def Pc.m (X : Pc) : Pc := ⟨mirR X.rs, X.w, X.h⟩
theorem Pc.G.t {X : Pc} (g : X.G) : X.t.G := Rect.turn g
theorem Pc.G.m {X : Pc} (g : X.G) : X.m.G := Rect.mir g
theorem Pc.look_t {X : Pc} (g : X.G) (x y : Int) : lookC X.t.rs x y = lookC X.rs y ((X.h : Int) - 1 - x) := lookC_turn g x y
theorem Pc.look_m {X : Pc} (g : X.G) (x y : Int) : lookC X.m.rs x y = lookC X.rs ((X.w : Int) - 1 - x) y := lookC_mir g x y
theorem Pc.ext' {X Y : Pc} (g : X.G) (g' : Y.G) (hw : X.w = Y.w) (hh : X.h = Y.h) (e : ∀ x y, lookC X.rs x y = lookC Y.rs x y) : X = Y := by
  obtain ⟨rs, w, h⟩ := X
  obtain ⟨rs', w', h'⟩ := Y
  simp only at hw hh e
  subst hw; subst hh
  have : rs = rs' := rect_ext g g' e
  rw [this]
theorem Pc.t4 {X : Pc} (g : X.G) : X.t.t.t.t = X := Pc.ext' g.t.t.t.t g rfl rfl fun x y => by
  rw [look_t g.t.t.t, look_t g.t.t, look_t g.t, look_t g]
  show lookC X.rs ((X.w : Int) - 1 - ((X.w : Int) - 1 - x)) ((X.h : Int) - 1 - ((X.h : Int) - 1 - y)) = _
  congr 1 <;> omega
theorem Pc.m2 {X : Pc} (g : X.G) : X.m.m = X := Pc.ext' g.m.m g rfl rfl fun x y => by
  rw [look_m g.m, look_m g]
  show lookC X.rs ((X.w : Int) - 1 - ((X.w : Int) - 1 - x)) y = _
  congr 1; omega
def Pc.it : Nat → Pc → Pc
  | 0, X => X
  | n + 1, X => (Pc.it n X).t
theorem Pc.G.it {X : Pc} (g : X.G) : ∀ n, (Pc.it n X).G
  | 0 => g
  | n + 1 => (g.it n).t
def Pc.mi (b : Nat) (X : Pc) : Pc := if b = 1 then X.m else X
theorem Pc.G.mi {X : Pc} (g : X.G) (b : Nat) : (Pc.mi b X).G := by
  unfold Pc.mi
  split
  · exact g.m
  · exact g
def Pc.po (p : Nat) (X : Pc) : Pc := Pc.it (p % 4) (Pc.mi (p / 4) X)
theorem Pc.G.po {X : Pc} (g : X.G) (p : Nat) : (Pc.po p X).G := (g.mi _).it _
end Gb

namespace Gb
open PySem PySem.Spec L2 PyProof.Rows LamX
/-! the law's beginning where tables of code objects stand ready -/
abbrev scrO (vs : List Value) : Obj := { cls := .type "list", data := .seq vs.toArray }
abbrev tabO (ps : Array Value) : Obj := { cls := .none, data := .fields ps }
/-- nothing but the script at a and the empty tables is told of -/
structure Beg (h : Heap) (a : Addr) (vs : List Value) (ns : List Int) (ts : List Addr) (H : Hp) : Prop where
  scr : h.get? a = some (scrO vs)
  tab : ∀ b ∈ ts, h.get? b = some (tabO #[]) ∧ H b = some (.tbl #[])
  is : ∀ b u, H b = some u → (b = a ∧ u = .frz (scrO vs) (.lst (ns.map V.int))) ∨ (b ∈ ts ∧ u = .tbl #[])
section
variable {h : Heap} {a : Addr} {vs : List Value} {ns : List Int} {ts : List Addr} {H : Hp}
theorem Beg.un (B : Beg h a vs ns ts H) {b : Addr} {o : Obj} (e : h.get? b = some o) (n1 : o ≠ scrO vs) (n2 : o ≠ tabO #[]) : H b = none := by
  cases q : H b with
  | none => rfl
  | some u =>
    rcases B.is b u q with ⟨rfl, _⟩ | ⟨z, _⟩
    · exact absurd (Option.some.inj (e.symm.trans B.scr)) n1
    · exact absurd (Option.some.inj (e.symm.trans (B.tab b z).1)) n2
theorem Beg.see (B : Beg h a vs ns ts H) {b : Addr} {o : Obj} (e : h.get? b = some o) (n1 : o ≠ scrO vs) (n2 : o ≠ tabO #[]) : (hidT h H).get? b = some o := hidT_get e (B.un e n1 n2)
theorem Beg.nms (B : Beg h a vs ns ts H) {b : Addr} {m : Str → Option Value} : h.Ns b m → (hidT h H).Ns b m
  | ⟨o, es, ep, e, d, r⟩ => ⟨o, es, ep, B.see e (fun z => by rw [z] at d; cases d) (fun z => by rw [z] at d; cases d), d, r⟩
theorem Beg.lim (B : Beg h a vs ns ts H) : h.NoLimit → (hidT h H).NoLimit
  | ⟨mc, h1, h2⟩ => ⟨mc, B.nms h1, h2⟩
theorem Beg.ok (B : Beg h a vs ns ts H) {P : Program} {w : World} (rv : Vals (ns.map V.int) vs) (hl : ns.length ≤ sizeLine) : HOk P w H h := fun b u q => by
  rcases B.is b u q with ⟨rfl, rfl⟩ | ⟨z, rfl⟩
  · exact ⟨B.scr, by rw [List.length_map]; exact hl, vs, _, rv, B.scr⟩
  · exact (B.tab b z).1
theorem Beg.code (B : Beg h a vs ns ts H) {c P : Addr} (C : PySem.W.CodeHd h c P) : PySem.W.CodeHd (hidT h H) c P := by
  obtain ⟨o, us, f, tf, fl, tg, inF, tx, tt, e, k, d, r⟩ := C
  have n1 : o ≠ scrO vs := fun z => by rw [z] at k; exact absurd k (by simp)
  have n2 : o ≠ tabO #[] := fun z => by rw [z] at k; exact absurd k (by simp)
  exact ⟨o, us, f, tf, fl, tg, inF, tx, tt, B.see e n1 n2, k, d, r⟩
end
end Gb

namespace Gb
open PySem PySem.Spec L2
/-! layers, and the order of a pile -/
structure Ly where
  rk : Int
  rs : List (List Cell)
  w : Nat
  h : Nat
  x : Int
  y : Int
def Ly.rect (L : Ly) : Prop := Rect L.rs L.w L.h
def Ly.near (L : Ly) : Prop := -1000000000 ≤ L.rk ∧ L.rk ≤ 1000000000 ∧ -1000000000 ≤ L.x ∧ L.x ≤ 1000000000 ∧ -1000000000 ≤ L.y ∧ L.y ≤ 1000000000
def plD (L : Ly) : D := .tup [.int L.rk, picD L.w L.rs, .int L.x, .int L.y]
def Ly.at (L : Ly) (x y : Int) : Cell := lookC L.rs (x - L.x) (y - L.y)
def rkA (Ls : List Ly) (i : Nat) : Int := ((Ls[i]?).map Ly.rk).getD 0
def leK (Ls : List Ly) (i j : Nat) : Prop := rkA Ls i < rkA Ls j ∨ (rkA Ls i = rkA Ls j ∧ i ≤ j)
def ords (Ls : List Ly) : List Nat := ordL (Ls.map plD)
theorem rkOf_plD (Ls : List Ly) (i : Nat) : rkOf (Ls.map plD) i = rkA Ls i := by
  unfold rkOf rkA
  rw [List.getElem?_map]
  cases Ls[i]? <;> rfl
theorem ords_eq (Ls : List Ly) : ords Ls = (List.range Ls.length).mergeSort fun p q => decide (rkA Ls p < rkA Ls q ∨ (rkA Ls p = rkA Ls q ∧ (p : Int) ≤ (q : Int))) := by
  have e : rkOf (Ls.map plD) = rkA Ls := funext (rkOf_plD Ls)
  have q := PySem.W.dataLe_ii (β := Nat) (rkA Ls) (fun i => (i : Int))
  unfold ords ordL
  rw [List.length_map, e, ← q]
  rfl
theorem ords_perm (Ls : List Ly) : (ords Ls).Perm (List.range Ls.length) := by
  rw [ords_eq]; exact List.mergeSort_perm _ _
theorem ords_mem (Ls : List Ly) {i : Nat} : i ∈ ords Ls ↔ i < Ls.length := by
  rw [(ords_perm Ls).mem_iff, List.mem_range]
theorem ords_le (Ls : List Ly) : (ords Ls).Pairwise (leK Ls) := by
  rw [ords_eq]
  refine (List.pairwise_mergeSort (fun a b c h1 h2 => ?_) (fun a b => ?_) _).imp fun {a b} h => ?_
  · have h1 := of_decide_eq_true h1
    have h2 := of_decide_eq_true h2
    exact decide_eq_true (by omega)
  · by_cases h : rkA Ls a < rkA Ls b ∨ (rkA Ls a = rkA Ls b ∧ (a : Int) ≤ (b : Int))
    · rw [decide_eq_true h]; rfl
    · rw [decide_eq_true (p := rkA Ls b < rkA Ls a ∨ (rkA Ls b = rkA Ls a ∧ (b : Int) ≤ (a : Int))) (by omega)]
      exact Bool.or_true _
  · have h := of_decide_eq_true h
    unfold leK
    omega
def sees (Ls : List Ly) (x y : Int) (i : Nat) : Prop := ∃ L, Ls[i]? = some L ∧ (L.at x y).isSome = true
theorem sees.lt {Ls : List Ly} {x y : Int} {i : Nat} (h : sees Ls x y i) : i < Ls.length := by
  obtain ⟨L, e, _⟩ := h
  exact (List.getElem?_eq_some_iff.mp e).1
/-- the uppermost layer there -/
def IsTop (Ls : List Ly) (x y : Int) : Option Nat → Prop
  | none => ∀ j, ¬ sees Ls x y j
  | some i => sees Ls x y i ∧ ∀ j, sees Ls x y j → leK Ls j i
theorem leK.anti {Ls : List Ly} {i j : Nat} (h : leK Ls i j) (g : leK Ls j i) : i = j := by
  unfold leK at h g
  omega
theorem IsTop.uniq {Ls : List Ly} {x y : Int} : ∀ {o p : Option Nat}, IsTop Ls x y o → IsTop Ls x y p → o = p
  | none, none, _, _ => rfl
  | none, some i, h, g => absurd g.1 (h i)
  | some i, none, h, g => absurd h.1 (g i)
  | some i, some j, h, g => by rw [(g.2 i h.1).anti (h.2 j g.1)]
theorem take_succ_mem {α : Type} {l : List α} {k : Nat} {a j : α} (hk : l[k]? = some a) (hj : j ∈ l.take (k + 1)) : j ∈ l.take k ∨ j = a := by
  rw [List.take_add_one, hk] at hj
  rcases List.mem_append.mp hj with h | h
  · exact .inl h
  · exact .inr (by simpa using h)
theorem top_back {Ls : List Ly} {x y : Int} {k i : Nat} (hk : (ords Ls).reverse[k]? = some i) (h : ∀ j ∈ (ords Ls).reverse.take k, ¬ sees Ls x y j) (hs : sees Ls x y i) : IsTop Ls x y (some i) := by
  refine ⟨hs, fun j hj => ?_⟩
  have hm : j ∈ (ords Ls).reverse := List.mem_reverse.mpr ((ords_mem Ls).mpr hj.lt)
  have pw : (ords Ls).reverse.Pairwise fun a b => leK Ls b a := List.pairwise_reverse.mpr (ords_le Ls)
  rw [← List.take_append_drop k (ords Ls).reverse] at hm pw
  rcases List.mem_append.mp hm with z | z
  · exact absurd hj (h j z)
  · have hd : (ords Ls).reverse.drop k = i :: (ords Ls).reverse.drop (k + 1) := by
      obtain ⟨hl, e⟩ := List.getElem?_eq_some_iff.mp hk
      rw [List.drop_eq_getElem_cons hl, e]
    rw [hd] at z pw
    rcases List.mem_cons.mp z with rfl | z
    · exact .inr ⟨rfl, Nat.le_refl _⟩
    · exact (List.pairwise_cons.mp (List.pairwise_append.mp pw).2.1).1 j z
theorem top_none {Ls : List Ly} {x y : Int} {k : Nat} (hk : (ords Ls).length ≤ k) (h : ∀ j ∈ (ords Ls).reverse.take k, ¬ sees Ls x y j) : IsTop Ls x y none := fun j hj => by
  refine h j ?_ hj
  rw [List.take_of_length_le (by simpa using hk)]
  exact List.mem_reverse.mpr ((ords_mem Ls).mpr hj.lt)
end Gb

namespace Gb
open PySem PySem.Spec L2
/-! grids of cells; what is painted -/
def gridR (w h : Nat) (f : Nat → Nat → Cell) : List (List Cell) := (List.range h).map fun y => rowOf w fun x => f x y
theorem gridR_len {w h : Nat} {f : Nat → Nat → Cell} : (gridR w h f).length = h := by simp [gridR]
theorem Rect.grid {w h : Nat} {f : Nat → Nat → Cell} (a1 : 1 ≤ w) (a2 : w ≤ 64) (a3 : 1 ≤ h) (a4 : h ≤ 64) (ok : ∀ x y, Gb.okc (f x y)) : Rect (gridR w h f) w h where
  len := gridR_len
  row := fun r hr => by
    obtain ⟨y, _, rfl⟩ := List.mem_map.mp hr
    exact ⟨by simp [rowOf], okc_rowOf fun x => ok x y⟩
  w1 := a1
  w64 := a2
  h1 := a3
  h64 := a4
def colAt (Ls : List Ly) (o : Option Nat) (x y : Int) (g : Cell) : Cell := match o with
  | none => g
  | some i => ((Ls[i]?).map fun L => L.at x y).getD none
theorem okc_colAt {Ls : List Ly} (hG : ∀ L ∈ Ls, L.rect) {g : Cell} (hg : okc g) (o : Option Nat) (x y : Int) : okc (colAt Ls o x y g) := by
  cases o with
  | none => exact hg
  | some i =>
    show okc (((Ls[i]?).map fun L => L.at x y).getD none)
    cases e : Ls[i]? with
    | none => exact okc_none
    | some L => exact Rect.okc (hG L (List.mem_of_getElem? e)) _ _
theorem top_ex (Ls : List Ly) (x y : Int) : ∃ o, IsTop Ls x y o := by
  have aux : ∀ m : Nat, (∃ o, IsTop Ls x y o) ∨ ∀ j ∈ (ords Ls).reverse.take m, ¬ sees Ls x y j := by
    intro m
    induction m with
    | zero => exact .inr fun j hj => by simp at hj
    | succ m ih =>
      rcases ih with h | h
      · exact .inl h
      · cases e : (ords Ls).reverse[m]? with
        | none =>
          refine .inr fun j hj => h j ?_
          rw [List.take_add_one, e] at hj
          simpa using hj
        | some i =>
          by_cases hs : sees Ls x y i
          · exact .inl ⟨_, top_back e h hs⟩
          · refine .inr fun j hj => ?_
            rcases take_succ_mem e hj with z | rfl
            · exact h j z
            · exact hs
  rcases aux (ords Ls).length with h | h
  · exact h
  · exact ⟨none, top_none (Nat.le_refl _) h⟩
noncomputable def topO (Ls : List Ly) (x y : Int) : Option Nat := Classical.choose (top_ex Ls x y)
noncomputable def paintR (Ls : List Ly) (w h : Nat) (g : Cell) : List (List Cell) := gridR w h fun x y => colAt Ls (topO Ls x y) x y g
theorem Rect.paint {Ls : List Ly} (hG : ∀ L ∈ Ls, L.rect) {w h : Nat} {g : Cell} (hg : Gb.okc g) (a1 : 1 ≤ w) (a2 : w ≤ 64) (a3 : 1 ≤ h) (a4 : h ≤ 64) : Rect (paintR Ls w h g) w h := Rect.grid a1 a2 a3 a4 fun x y => okc_colAt hG hg _ _ _
/-- the uppermost of some layers -/
def TopIn (Ls : List Ly) (p : List Nat) (x y : Int) : Option Nat → Prop
  | none => ∀ j ∈ p, ¬ sees Ls x y j
  | some i => i ∈ p ∧ sees Ls x y i ∧ ∀ j ∈ p, sees Ls x y j → leK Ls j i
theorem TopIn.all {Ls : List Ly} {x y : Int} : ∀ {o : Option Nat}, TopIn Ls (ords Ls) x y o → IsTop Ls x y o
  | none, h => fun j hj => h j ((ords_mem Ls).mpr hj.lt) hj
  | some i, h => ⟨h.2.1, fun j hj => h.2.2 j ((ords_mem Ls).mpr hj.lt) hj⟩
theorem TopIn.take {Ls : List Ly} {p : List Nat} {a : Nat} {x y : Int} (hs : sees Ls x y a) (hp : ∀ j ∈ p, leK Ls j a) : TopIn Ls (p ++ [a]) x y (some a) := by
  refine ⟨by simp, hs, fun j hj hj2 => ?_⟩
  rcases List.mem_append.mp hj with z | z
  · exact hp j z
  · rw [List.mem_singleton.mp z]; exact .inr ⟨rfl, Nat.le_refl _⟩
end Gb

namespace Gb
open PySem PySem.Spec L2
/-! sums, and masks by their bits -/
def bm (w : Nat) (p : Nat → Bool) : Nat := msk (rowOf w fun x => if p x then some 0 else none)
/-! at the top, counted -/
end Gb

namespace Gb
open PySem PySem.Spec L2
/-! layers on a row of a beam -/
/-! what lacks -/
end Gb

namespace Gb
open PySem PySem.Spec L2
/-! a beam's row: the board beneath, those read upon it -/
def Ly.near2 (L : Ly) : Prop := -1999999999 ≤ L.x ∧ L.x ≤ 1999999999 ∧ -1999999999 ≤ L.y ∧ L.y ≤ 1999999999
theorem Ly.near.two {L : Ly} (h : L.near) : L.near2 := by
  obtain ⟨_, _, h1, h2, h3, h4⟩ := h
  exact ⟨by omega, by omega, by omega, by omega⟩
end Gb

namespace Gb
open PySem PySem.Spec L2
section
variable {C : Ct} {W : WX} {w w' : Wd} {H H' : Hp} {σ σ' : L2.St} {Q : VK} {X : Cx} {ca : Cad} {ρ : List T} {t u : T}
/-! methods of texts -/
def txts : List D → Option (List Str)
  | [] => some []
  | .str s :: ds => (txts ds).map (s :: ·)
  | _ => none
theorem txts_map : ∀ {ds : List D} {ys : List Str}, txts ds = some ys → ds = ys.map D.str
  | [], ys, h => by cases h; rfl
  | .str s :: ds, ys, h => by
    unfold txts at h
    cases e : txts ds with
    | none => rw [e] at h; cases h
    | some zs =>
      rw [e] at h
      cases h
      rw [List.map_cons, ← txts_map e]
  | .non :: _, _, h => by cases h
  | .bl _ :: _, _, h => by cases h
  | .int _ :: _, _, h => by cases h
  | .ty _ :: _, _, h => by cases h
  | .lst _ :: _, _, h => by cases h
  | .tup _ :: _, _, h => by cases h
  | .scr _ :: _, _, h => by cases h
  | .dic _ _ :: _, _, h => by cases h
  | .obj _ _ _ :: _, _, h => by cases h
  | .exn _ _ _ _ :: _, _, h => by cases h
theorem txts_of : ∀ ys : List Str, txts (ys.map D.str) = some ys
  | [] => rfl
  | y :: ys => by rw [List.map_cons]; unfold txts; rw [txts_of ys]; rfl
theorem RDs.txts {A : Addr → Prop} : ∀ {ys : List Str} {vs : List V}, RDs C H A (ys.map D.str) vs → vs = ys.map V.str
  | [], vs, h => h
  | y :: ys, vs, h => by
    obtain ⟨v, r, rfl, h1, h2⟩ := h
    have e : v = .str y := h1
    rw [e, RDs.txts h2]; rfl
theorem RDs.of_txts {A : Addr → Prop} : ∀ (ys : List Str), RDs C H A (ys.map D.str) (ys.map V.str)
  | [] => rfl
  | y :: ys => ⟨.str y, ys.map V.str, rfl, rfl, RDs.of_txts ys⟩
theorem Stt.head_str {b : Bool} {s : Str} {v : V} (S : Stt C w H (.imm b (.str s) :: ρ) (some v :: σ)) : v = .str s := by
  obtain ⟨x, ex, r⟩ := S.head_imm
  cases ex
  exact r
def t1k (f : Str → T → DE) (db : DE) : T → List T → ER T
  | .imm _ (.str s), ρ => (db ρ).bind fun y ρ2 => f s y ρ2
  | _, _ => .bad
def dT1 (f : Str → T → DE) (da db : DE) : DE := fun ρ => (da ρ).bind (t1k f db)
def t0k (f : Str → DE) : T → List T → ER T
  | .imm _ (.str s), ρ => f s ρ
  | _, _ => .bad
def dT0 (f : Str → DE) (da : DE) : DE := fun ρ => (da ρ).bind (t0k f)
theorem tm1 {f : Str → T → DE} {da db : DE} {R : V → List V → Hp → VK → Prop} (h : tE C W (dT1 f da db) σ H Q) (hr : ∀ w H s y ρ u, Stt C w H (y :: ρ) (some u :: σ) → kE C W w H σ Q (f s y ρ) → R (.str s) [u] H Q) : tM1 R (tE C W da) (tE C W db) σ H Q :=
  one (f := t1k f db) (r := fun v H1 Q => (∃ a, v = .str a) ∧ tE C W db σ H1 fun y H2 => R v [y] H2 Q) h fun w H x ρ v S k => by
    cases x with
    | imm b d =>
      cases d with
      | str s =>
        have e := S.head_str
        subst e
        exact ⟨⟨s, rfl⟩, one (da := db) (f := f s) (r := fun y H2 Q => R (.str s) [y] H2 Q) ⟨w, ρ, S.drop, k⟩ fun w' H' y ρ' u S' k' => hr w' H' s y ρ' u S' k'⟩
      | _ => exact k.elim
    | _ => exact k.elim
/-- which method, by what it answers -/
structure MetT1 (X : Cx) (ca : Cad) (W : WX) (name : Str) (id : String) (f : Str → T → DE) : Prop where
  slot : Slot "str" name id
  ty : typeOf (.builtin id) = pure (.type "method_descriptor")
  rule : ∃ R, MtR X id R ∧ ∀ w H σ Q s y ρ u, Stt ⟨X.K, ca⟩ w H (y :: ρ) (some u :: σ) → kE ⟨X.K, ca⟩ W w H σ Q (f s y ρ) → R (.str s) [u] H Q
theorem se_t1 {o e : Expr} {name : Str} {id : String} {apos pos : Pos} {f : Str → T → DE} {da db : DE} (M : MetT1 X ca W name id f) (ho : SE X ca W o da) (he : SE X ca W e db)
    (hs : starEach [e] X.env = [(false, eval e X.env)] := by rfl) (hbase : attributeBase o name X.env (eval o X.env) = eval o X.env := by rfl) (hline : (apos.endLine == pos.line) = true := by rfl) :
    SE X ca W (.Call (.Attribute o name apos) [e] [] pos) (dT1 f da db) := by
  obtain ⟨R, hR, hf⟩ := M.rule
  exact ⟨PE.imp (pe_m1 M.slot M.ty hR ho.pe he.pe hs hbase hline) fun σ H Q q => tm1 q fun w H s y ρ u S k => hf w H σ Q s y ρ u S k⟩
structure MetT0 (X : Cx) (ca : Cad) (W : WX) (name : Str) (id : String) (f : Str → DE) : Prop where
  slot : Slot "str" name id
  ty : typeOf (.builtin id) = pure (.type "method_descriptor")
  rule : ∃ R, MtR X id R ∧ ∀ w H σ Q s ρ, Stt ⟨X.K, ca⟩ w H ρ σ → kE ⟨X.K, ca⟩ W w H σ Q (f s ρ) → R (.str s) [] H Q
def fSplit (s : Str) : T → DE
  | .imm _ (.str b), ρ => if (b.length == 0) = false ∧ s.length + 2 ≤ 16777216 then .ok (.lstI ((Txt.split s b).map D.str)) ρ else .bad
  | _, _ => .bad
theorem mtt_split : MetT1 X ca W "split" "str.split" fSplit := ⟨PySem.F.slot_str_split, PySem.F.type_str_split, _, mt_split, fun w H σ Q s y ρ u S k => by
  unfold fSplit at k
  split at k
  · rename_i b t
    split at k
    · rename_i hh
      have e := S.head_str
      subst e
      exact ⟨s, t, rfl, rfl, hh.1, hh.2, fun p hp => let n := S.drop.newL (RDs.of_txts _) hp; k _ _ _ n.1 n.2⟩
    · exact k.elim
  · exact k.elim⟩
def fJoin (s : Str) : T → DE
  | .imm _ (.lst ds), ρ => (match txts ds with
    | some ys => if (ys.map (·.length)).sum + ys.length * s.length ≤ 16777216 then .ok (.imm false (.str (Txt.join s ys))) ρ else .bad
    | none => .bad)
  | _, _ => .bad
theorem mtt_join : MetT1 X ca W "join" "str.join" fJoin := ⟨PySem.F.slot_str_join, PySem.F.type_str_join, _, mt_join, fun w H σ Q s y ρ u S k => by
  unfold fJoin at k
  split at k
  · rename_i b ds
    split at k
    · rename_i ys hy
      split at k
      · rename_i hh
        obtain ⟨x, ex, r⟩ := S.head_imm
        cases ex
        rw [txts_map hy] at r
        obtain ⟨a, vs, rfl, la, rd⟩ := r
        have ev := RDs.txts rd
        subst ev
        exact ⟨s, a, ys, rfl, rfl, .inl (.of la.2), hh, k w H _ .refl (S.drop.cons_imm rfl)⟩
      · exact k.elim
    · exact k.elim
  · exact k.elim⟩
def fIndexT (s : Str) : T → DE
  | .imm _ (.str b), ρ => (match Builtin.Str.occurrences s b 0 s.length 1 with
    | i :: _ => .ok (.imm false (.int (i : Nat))) ρ
    | [] => .bad)
  | _, _ => .bad
theorem mtt_index : MetT1 X ca W "index" "str.index" fIndexT := ⟨PySem.F.slot_str_index, PySem.F.type_str_index, _, mt_sindex, fun w H σ Q s y ρ u S k => by
  unfold fIndexT at k
  split at k
  · rename_i b t
    split at k
    · rename_i i rest hh
      have e := S.head_str
      subst e
      exact ⟨s, t, i, rest, rfl, rfl, hh, k w H _ .refl (S.drop.cons_imm rfl)⟩
    · exact k.elim
  · exact k.elim⟩
def fFindT (s : Str) : T → DE
  | .imm _ (.str b), ρ => .ok (.imm false (.int (Txt.find s b))) ρ
  | _, _ => .bad
def fStarts (s : Str) : T → DE
  | .imm _ (.str b), ρ => .ok (.imm false (.bl (Txt.startswith s b))) ρ
  | _, _ => .bad
def fZfill (s : Str) : T → DE
  | .imm _ (.int i), ρ => if PadOk i = true then .ok (.imm false (.str (Txt.zfill s i))) ρ else .bad
  | _, _ => .bad
/-! ord -/
/-! a sign in a text -/
def gInT : D → D → Option D
  | .str s, .str z => (match s.cps.toList with
    | [c] => some (.bl (decide (c ∈ z.cps.toList)))
    | _ => none)
  | d, e => gIn d e
def gNinT : D → D → Option D
  | .str s, .str z => (match s.cps.toList with
    | [c] => some (.bl (!decide (c ∈ z.cps.toList)))
    | _ => none)
  | d, e => gNin d e
theorem gInT_way (d e : D) : (∃ s z, d = .str s ∧ e = .str z) ∨ (gInT d e = gIn d e ∧ gNinT d e = gNin d e) := by
  cases d <;> cases e <;> first | exact .inl ⟨_, _, rfl, rfl⟩ | exact .inr ⟨rfl, rfl⟩
theorem sign_of {s : Str} {c : Nat} (h : s.cps.toList = [c]) : s = ⟨#[c]⟩ := by
  obtain ⟨cps⟩ := s
  have : cps = #[c] := by
    apply Array.toList_inj.mp
    exact h
  rw [this]
theorem ops_inT {k : Nat} (hr : RoomG k X.A) : OpS X ca W (compareOp .In) (fS gInT) := by
  obtain ⟨R, hR, hf⟩ := ops_in (X := X) (ca := ca) (W := W) hr
  refine ⟨_, OpR.or op_in_sign hR, fun w H σ Q x y ρ v u S k => ?_⟩
  by_cases hw : ∃ b1 s b2 z, x = .imm b1 (.str s) ∧ y = .imm b2 (.str z)
  · obtain ⟨b1, s, b2, z, rfl, rfl⟩ := hw
    have e1 := S.head_str
    have e2 := S.drop.head_str
    subst e1; subst e2
    unfold fS gInT at k
    simp only at k
    cases hs : s.cps.toList with
    | nil => rw [hs] at k; exact k.elim
    | cons c r =>
      cases r with
      | nil =>
        rw [hs] at k
        exact .inl ⟨c, z, by rw [sign_of hs], rfl, ok_scal S k rfl⟩
      | cons _ _ => rw [hs] at k; exact k.elim
  · refine .inr (hf w H σ Q x y ρ v u S ?_)
    have e : fS gInT x y ρ = fS gIn x y ρ := by
      unfold fS
      cases x with
      | imm b d =>
        cases y with
        | imm c e =>
          rcases gInT_way d e with ⟨s, z, rfl, rfl⟩ | h
          · exact absurd ⟨_, _, _, _, rfl, rfl⟩ hw
          · simp only [h.1]
        | _ => rfl
      | _ => rfl
    rw [← e]; exact k
end
end Gb

namespace Gb
open PySem PySem.Spec L2
section
variable {C : Ct} {W : WX} {w w' : Wd} {H H' : Hp} {σ σ' : L2.St} {Q : VK} {X : Cx} {ca : Cad} {ρ : List T} {t u : T}
/-! enumerate(list), zip(list, list) -/
def enD : Nat → List D → List D
  | _, [] => []
  | k, d :: ds => .tup [.int (k : Nat), d] :: enD (k + 1) ds
theorem enD_length : ∀ (k : Nat) (ds : List D), (enD k ds).length = ds.length
  | _, [] => rfl
  | k, d :: ds => by unfold enD; rw [List.length_cons, List.length_cons, enD_length]
theorem enD_get : ∀ (ds : List D) (k i : Nat), (enD k ds)[i]? = (ds[i]?).map fun d => D.tup [.int ((k + i : Nat) : Int), d]
  | [], k, i => by unfold enD; simp
  | d :: ds, k, 0 => by unfold enD; simp
  | d :: ds, k, i + 1 => by
    unfold enD
    rw [List.getElem?_cons_succ, List.getElem?_cons_succ, enD_get ds (k + 1) i, show k + 1 + i = k + (i + 1) by omega]
def zpD (ds es : List D) : List D := List.zipWith (fun d e => D.tup [d, e]) ds es
theorem yld_pair {b : Bool} {d e : D} {x : V} {T : Addr} {y z : V} (S : Stt C w H ρ σ) (hT : H T = none) (hx : x = .ref T) (rd : RD C H (w.im b) d y) (re : RD C H (w.im b) e z) :
    ∃ w'', After w H w'' (upd H T (.tup [y, z])) ∧ Stt C w'' (upd H T (.tup [y, z])) (.imm b (.tup [d, e]) :: ρ) (some x :: σ) := by
  subst hx
  have n := S.newI (o := .tup [y, z]) hT
  refine ⟨_, n.1, n.2.cons_imm ⟨T, [y, z], rfl, ⟨.inl (.inr rfl), upd_same⟩, ?_⟩⟩
  exact ⟨y, [z], rfl, RD_mono n.1.im _ _ rd, z, [], rfl, RD_mono n.1.im _ _ re, rfl⟩
theorem RD.flag {b c : Bool} {d : D} {v : V} (h : RD C H (w.im b) d v) (hb : b = true → c = true) : RD C H (w.im c) d v := RD_mono (fun a z => ⟨z.elim .inl fun q => .inr ⟨hb q.1, q.2⟩, rfl⟩) _ _ h
def enumItems : List T → List T → ER (Bool × List D)
  | [.imm b (.lst ds)], ρ => if ds.length ≤ 16777216 then .ok (b, enD 0 ds) ρ else .bad
  | _, _ => .bad
def diEnum (da : DA) : DI := fun ρ => (da ρ).bind enumItems
def zipItems : List T → List T → ER (Bool × List D)
  | [.imm b (.lst ds), .imm c (.lst es)], ρ => if ds.length ≤ 16777216 then .ok (b || c, zpD ds es) ρ else .bad
  | _, _ => .bad
def diZip (da : DA) : DI := fun ρ => (da ρ).bind zipItems
end
end Gb

namespace Gb
open PySem PySem.Spec L2 PyProof.Rows
/-! own exceptions with an own __init__ that calls its base's -/
def CXn : CXT := fun _ _ _ _ _ _ => False
theorem passn {X : Cx} {E : XK} : Passes CXn X E := fun _ _ _ _ _ _ _ h => h.elim
/-- what the written part says of the base class -/
structure BasC (K : PySem.W.Frag) (mg : Str → Option Value) (G : Addr) (x : Str) : Prop where
  g : mg x = some (.ref G)
  ty : PySem.W.typeIn K (.ref G) = some (.type "type")
  ga : PySem.W.specialIn K (.ref G) "__getattribute__" = some (some (.builtin "type.__getattribute__"))
  rd : PySem.W.readsIn K G (.type "type") = true
  fc : PySem.W.findCls K (.ref G) (.type "type") "__init__" = some (.val (.builtin "ValueError.__init__"))
theorem pe_oinit {X : Cx} {x : Str} {G : Addr} {e : Expr} {es : List Expr} {ta : TA} {p1 p2 pos : Pos} {pl : Sem Bool} (B : BasC X.K X.mg G x) (ha : PA X (e :: es) ta) (hg : Gl X x := by rfl)
    (hdb : (x == ("__debug__" : Str)) = false := by decide)
    (hc : eval (.Call (.Attribute (.Name x p1) "__init__" p2) (e :: es) [] pos) X.env = (do
      let ov ← eval (.Name x p1) X.env
      standAt p2.atName
      let (f, first) ← holding [ov] (getMethod ov "__init__" pl)
      callWith pos f first (backTo pos (starEach (e :: es) X.env)) (backToKw pos (keywordEach [] X.env))) := by rfl)
    (he : starEach (e :: es) X.env = (false, eval e X.env) :: starEach es X.env := by rfl) (hpl : (backTo pos (starEach es X.env)).any (·.1) = false := by rfl) :
    PE X (.Call (.Attribute (.Name x p1) "__init__" p2) (e :: es) [] pos) (tVeI X.K ta) := by
  refine ⟨fun pins s σ H Q I h => ?_⟩
  refine PySem.W.methodCall_KW (ld_glob I hg B.g ?_ hdb) hc
  obtain ⟨m, fr⟩ := I.fr
  refine PySem.W.method_of_cls fr I.ok.mod.kin B.ga (PySem.W.cls_val fr I.ok.mod.kin B.ty B.rd B.fc (by decide +kernel) ?_)
  show wpAny _ _ (callWith pos (Value.builtin "ValueError.__init__") [] (backTo pos (starEach (e :: es) X.env)) []) _ _ _
  refine PyProof.Rows.callWith_method1 (thn (ha.run pos pins _ σ H _ (I.tok _) h) fun us s1 ⟨vs, H1, I1, r1, a, C, ws, ev, hl, T, ea, q⟩ => ?_) he hpl
  subst ev
  cases r1 with
  | @cons _ u0 _ ur ra rw' =>
    obtain rfl : u0 = Value.ref a := ra
    have hlen : ur.length ≤ sizeLine := by
      rw [← Paired.length rw', sizeLine_eq]
      omega
    exact oinit_ok T I1 ea hlen fun s' J => ⟨.non, H1, J, rfl, q⟩
/-- what C's __init__ does: the fields, the last one first -/
def spIni (K : PySem.W.Frag) (C : Addr) (fs : List Str) : Sp := fun us H Q _ => ∃ (a : Addr) (vs : List V), us = .ref a :: vs ∧ vs.length = fs.length ∧ OexC K C ∧ (∀ f ∈ fs, PySem.W.findIn K (.ref C) f = some none) ∧ H a = some (exo a C none) ∧
  ∀ (H' : Hp) (dx : Addr), dx ≠ a → H dx = none → H' a = some (exo a C (some dx)) → H' dx = some (exd dx (fs.zip vs).reverse) → (∀ b, b ≠ a → b ≠ dx → H' b = H b) → Q .non H'
theorem spIni_len {K : PySem.W.Frag} {C : Addr} {fs ps : List Str} (hl : ps.length = fs.length + 1) : ∀ vs H Q E, spIni K C fs vs H Q E → vs.length = ps.length := fun us H Q E h => by
  obtain ⟨a, vs, rfl, h1, _⟩ := h
  rw [List.length_cons, h1, hl]
section
variable {K : PySem.W.Frag} {C : Addr} {H : Hp} {Q : VK} {E : XK} {a : Addr} {y z : V} {f g : Str} {m : Str}
/-- one field -/
theorem ini1 {us : List V} {N : List Str} (hN : N.length = 2) (h : spIni K C [f] us H Q E) {tv tf : TE} {D : Ends} (hD : ∀ σ H', Q .non H' → D.nx σ H')
    {ta : TA} (hta : ∀ (a : Addr) (y : V) (H : Hp) (Q : List V → Hp → Prop), Q [.ref a, .str m] H → ta [some (.ref a), some y] H Q) (htv : ∀ (a : Addr) (y : V) (H : Hp) (Q : VK), Q (.ref a) H → tv [some (.ref a), some y] H Q) (htf : ∀ (a : Addr) (y : V) (H : Hp) (Q : VK), Q y H → tf [some (.ref a), some y] H Q) :
    tSeq (tDrop (tVeI K ta)) (tOst K f tv tf) D (L2.start N us) H := by
  obtain ⟨a, vs, rfl, hl, T, no, ea, q⟩ := h
  match vs, hl with
  | [y], _ =>
    have es : L2.start N [.ref a, y] = [some (.ref a), some y] := by unfold L2.start; rw [hN]; rfl
    rw [es]
    show tVeI K ta [some (.ref a), some y] H fun _ H1 => tOst K f tv tf D [some (.ref a), some y] H1
    refine hta a y H _ ⟨a, C, [.str m], rfl, by simp, T, ea, ?_⟩
    refine htf a y H _ (htv a y H _ ⟨a, C, rfl, T, no f (by simp), .inl ⟨ea, fun dx hdx ne => hD _ _ (q _ dx ne hdx ?_ ?_ ?_)⟩⟩)
    · exact upd_same
    · rw [upd_ne ne, upd_same]; rfl
    · intro b h1 h2
      rw [upd_ne h1, upd_ne h2]
end
/-! raise C(e, ..) -/
def unB : T → Option D
  | .imm b d => bif !b || d.flat then some d else none
  | _ => none
def unBs : List T → Option (List D)
  | [] => some []
  | t :: ts => match unB t, unBs ts with
    | some d, some ds => some (d :: ds)
    | _, _ => none
theorem unBs_rd {C : Ct} {w : Wd} {H : Hp} {ρ : List T} {σ : L2.St} : ∀ {ts : List T} {vs : List V} {ds : List D}, vs.length = ts.length → Stt C w H (ts ++ ρ) (vs.map some ++ σ) → unBs ts = some ds → RDs C H w.I ds vs ∧ Stt C w H ρ σ
  | [], vs, ds, l, S, e => by
    have : vs = [] := List.length_eq_zero_iff.mp (by simpa using l)
    subst this
    cases e
    exact ⟨rfl, S⟩
  | t :: ts, [], ds, l, S, e => by simp at l
  | t :: ts, v :: vs, ds, l, S, e => by
    unfold unBs at e
    cases q0 : unB t with
    | none => rw [q0] at e; cases e
    | some d =>
      cases q : unBs ts with
      | none => rw [q0, q] at e; cases e
      | some es =>
        rw [q0, q] at e
        cases e
        cases t with
        | imm b d' =>
          have q1 : (bif !b || d'.flat then some d' else none) = some d := q0
          cases hb : (!b || d'.flat) with
          | false => rw [hb] at q1; exact absurd q1 (by simp)
          | true =>
            rw [hb] at q1
            obtain rfl : d' = d := by simpa using q1
            have S' : Stt C w H (.imm b d' :: (ts ++ ρ)) (some v :: (vs.map some ++ σ)) := S
            obtain ⟨x, ex, r⟩ := S'.head_imm
            obtain rfl : v = x := Option.some.inj ex
            obtain ⟨r2, S2⟩ := unBs_rd (by simpa using l) S'.drop q
            refine ⟨⟨v, vs, rfl, ?_, r2⟩, S2⟩
            cases b with
            | false => exact RD_mono (fun a z => ⟨z.elim id fun q => absurd q.1 (by simp), rfl⟩) _ _ r
            | true => exact RD.flat (by simpa using hb) r
        | _ => exact absurd q0 (by simp [unB])
def raisk (k : Nat) (ns : List Str) : List T → List T → SR := fun ts ρ => match unBs ts with
  | some ds => if ds.length = ns.length ∧ 0 < ns.length ∧ ns.length ≤ 900 then .exc ⟨k, ns.reverse, ds.reverse⟩ ρ else .bad
  | none => .bad
def dRaiseF (k : Nat) (ns : List Str) (da : DA) : DS := fun ρ => match da ρ with
  | .ok ts ρ' => raisk k ns ts ρ'
  | .exc e ρ' => .exc e ρ'
  | .bad => .bad
structure ExI (P : Program) (wd : World) (K : PySem.W.Frag) (mg : Str → Option Value) (C : Addr) (x : Str) (ns : List Str) : Prop where
  T : OexC K C
  no : ∀ f ∈ ns, PySem.W.findIn K (.ref C) f = some none
  g : mg x = some (.ref C)
  ini : ∃ (fI : Addr) (fd : FuncData) (ps : List Str), PySem.W.findIn K (.ref C) "__init__" = some (some (.ref fI)) ∧ PySem.W.typeIn K (.ref fI) = some (.type "function") ∧ (∀ base : Heap, FnOk P wd K mg base CXn 1 fI fd ps (spIni K C ns)) ∧ Binds K fd ps []
theorem zip_fst : ∀ {ns : List Str} {vs : List V}, vs.length = ns.length → (ns.zip vs).map (·.1) = ns
  | [], [], _ => rfl
  | n :: ns, v :: vs, h => by rw [List.zip_cons_cons, List.map_cons, zip_fst (by simpa using h)]
  | [], _ :: _, h => by simp at h
  | _ :: _, [], h => by simp at h
theorem zip_snd : ∀ {ns : List Str} {vs : List V}, vs.length = ns.length → (ns.zip vs).map (·.2) = vs
  | [], [], _ => rfl
  | n :: ns, v :: vs, h => by rw [List.zip_cons_cons, List.map_cons, zip_snd (by simpa using h)]
  | [], _ :: _, h => by simp at h
  | _ :: _, [], h => by simp at h
theorem ss_raiseF {X : Cx} {ca : Cad} {W : WX} {pn : List Nat} {x : Str} {k : Nat} {ns : List Str} {e : Expr} {es : List Expr} {da : DA} {p pos pos2 : Pos} (F : ExI X.prog X.w X.K X.mg (ca k) x ns) (tk : Takes X W) {lv : Nat} (hr : RoomG lv X.A) (ha : SA X ca W (e :: es) da) (hlv : 2 ≤ lv := by omega)
    (hc : X.calm = true := by rfl) (hg : Gl X x := by rfl) (hdb : (x == ("__debug__" : Str)) = false := by decide) (he : starEach (e :: es) X.env = (false, eval e X.env) :: starEach es X.env := by rfl) (hpl : (backTo pos (starEach es X.env)).any (·.1) = false := by rfl) :
    SS X ca W pn (.Raise (some (.Call (.Name x p) (e :: es) [] pos)) none pos2) (dRaiseF k ns da) := by
  obtain ⟨fI, fd, ps, iC, tI, F1, hb⟩ := F.ini
  refine ⟨PS.imp (ps_raise hc tk (pmk_oex F.T iC tI (F1 X.base) (hr.r.mono hlv) hb .nil passn hg F.g ha.pa hdb he hpl)) fun D σ H h => ?_⟩
  obtain ⟨w, ρ, S, kk⟩ := h
  refine ⟨w, ρ, S, ?_⟩
  unfold dRaiseF at kk
  cases ea : da ρ with
  | bad => rw [ea] at kk; exact kk.elim
  | exc x1 ρ1 =>
    rw [ea] at kk
    exact fun w1 H1 cls dx A1 S1 x1 => kk w1 H1 σ cls dx A1 S1 .refl x1
  | ok ts ρ1 =>
    rw [ea] at kk
    intro w1 H1 vs hl A1 S1
    replace kk : kS ⟨X.K, ca⟩ W pn w1 H1 σ D (raisk k ns ts ρ1) := kS.after A1 .refl kk
    unfold raisk at kk
    split at kk
    · rename_i ds hds
      split at kk
      · rename_i hn
        obtain ⟨rd, S2⟩ := unBs_rd hl S1 hds
        have hvn : vs.length = ns.length := by rw [← rd.length]; exact hn.1
        refine ⟨by omega, fun a hA => ?_⟩
        rw [List.append_nil]
        refine ⟨a, vs, rfl, hvn, F.T, F.no, upd_same, fun H' dx ne hdx h1 h2 h3 => ⟨rfl, dx, (ns.zip vs).reverse, h1, h2, ?_, ?_⟩⟩
        · rw [upd_ne ne] at hdx; exact hdx
        · rw [upd_ne ne] at hdx
          have eH : upd (del H' a) dx (.xd (ns.zip vs).reverse) = upd H1 dx (.xd (ns.zip vs).reverse) := by
            funext b
            by_cases hb1 : b = dx
            · rw [hb1, upd_same, upd_same]
            · rw [upd_ne hb1, upd_ne hb1]
              by_cases hb2 : b = a
              · rw [hb2, del_same, hA]
              · rw [del_ne hb2, h3 b hb2 hb1, upd_ne hb2]
          rw [eH]
          have n := S2.newI (o := .xd (ns.zip vs).reverse) hdx
          refine kk _ _ σ _ _ n.1 n.2 .refl ⟨rfl, .inr ⟨dx, _, rfl, ?_, .inr rfl, upd_same, ?_, ?_⟩⟩
          · exact fun z => absurd (List.reverse_eq_nil_iff.mp z) (List.ne_nil_of_length_pos hn.2.1)
          · rw [List.map_reverse, zip_fst hvn]
          · rw [List.map_reverse, zip_snd hvn]
            exact (RDs_mono (fun b z => ⟨.inl z, n.1.keep b (.inl z)⟩) _ _ rd).reverse
      · exact kk.elim
    · exact kk.elim
end Gb

namespace Gb
open PySem PySem.Spec L2
section
variable {α β : Type} {a : α} {ρ : List T} {x : Ex} {da db dc de : DE} {dr : DA} {c d e : D} {b b1 b2 b3 : Bool} {i j : Int} {n k : Nat} {ds es : List D} {t u : T} {ts : List T} {s z f g : Str}
theorem v_dT1 {h : Str → T → DE} : dT1 h da db ρ = bnd (da ρ) (t1k h db) := rfl
theorem v_t1k {h : Str → T → DE} : t1k h db (.imm b (.str s)) ρ = bnd (db ρ) (h s) := rfl
theorem v_dT0 {h : Str → DE} : dT0 h da ρ = bnd (da ρ) (t0k h) := rfl
theorem v_t0k {h : Str → DE} : t0k h (.imm b (.str s)) ρ = h s ρ := rfl
theorem v_fSplit (h1 : (z.length == 0) = false) (h2 : s.length + 2 ≤ 16777216) : fSplit s (.imm b (.str z)) ρ = .ok (.lstI ((Txt.split s z).map D.str)) ρ := if_pos ⟨h1, h2⟩
theorem v_fFindT : fFindT s (.imm b (.str z)) ρ = .ok (.imm false (.int (Txt.find s z))) ρ := rfl
theorem v_fStarts : fStarts s (.imm b (.str z)) ρ = .ok (.imm false (.bl (Txt.startswith s z))) ρ := rfl
theorem fJoin_ok {ys : List Str} (h : (ys.map (·.length)).sum + ys.length * s.length ≤ 16777216) : fJoin s (.imm b (.lst (ys.map D.str))) ρ = .ok (.imm false (.str (Txt.join s ys))) ρ := by
  unfold fJoin
  simp only [txts_of]
  exact if_pos h
theorem v_iEnum : diEnum dr ρ = bnd (dr ρ) enumItems := rfl
theorem v_enumItems (h : ds.length ≤ 16777216) : enumItems [.imm b (.lst ds)] ρ = .ok (b, enD 0 ds) ρ := if_pos h
theorem v_iZip : diZip dr ρ = bnd (dr ρ) zipItems := rfl
theorem v_zipItems (h : ds.length ≤ 16777216) : zipItems [.imm b1 (.lst ds), .imm b2 (.lst es)] ρ = .ok (b1 || b2, zpD ds es) ρ := if_pos h
def raisx (k : Nat) (ns : List Str) : ER (List T) → SR
  | .ok ts ρ' => raisk k ns ts ρ'
  | .exc e ρ' => .exc e ρ'
  | .bad => .bad
theorem v_RaiseF {ns : List Str} : dRaiseF k ns dr ρ = raisx k ns (dr ρ) := by
  unfold dRaiseF raisx
  cases dr ρ <;> rfl
theorem v_raisx {ns : List Str} : raisx k ns (.ok ts ρ) = raisk k ns ts ρ := rfl
theorem v_raisk1 : raisk k [f] [.imm false d] ρ = .exc ⟨k, [f], [d]⟩ ρ := rfl
theorem v_raisk1_int : raisk k [f] [.imm b (.int i)] ρ = .exc ⟨k, [f], [.int i]⟩ ρ := by cases b <;> rfl
theorem v_raisk1_non : raisk k [f] [.imm b .non] ρ = .exc ⟨k, [f], [.non]⟩ ρ := by cases b <;> rfl
theorem v_raisk2 : raisk k [f, g] [.imm false d, .imm false e] ρ = .exc ⟨k, [g, f], [e, d]⟩ ρ := rfl
theorem v_isT2n {j k : Nat} {r : Option Bool} (h : n ≠ k) : isT2 n j k r = r := if_neg h
theorem xfk_of {a dd m : Nat} {ns : List Str} {vs us : List D} {ok : Nat → Bool} (h : ok m = true) (hn : ns ≠ []) (e : lookF f ns us = some d) : xfk a dd ⟨m, ns, vs⟩ f ok ρ (some (.imm false (.exn a dd ns us))) = .ok (.imm false d) ρ := by
  show (if false = false ∧ a = a ∧ dd = dd ∧ ns = ns ∧ ns ≠ [] ∧ ok m = true then (match lookF f ns us with | some d => ER.ok (T.imm false d) ρ | none => ER.bad) else ER.bad) = _
  rw [if_pos ⟨rfl, rfl, rfl, rfl, hn, h⟩, e]
theorem v_xfk1 {a dd m : Nat} {vs : List D} {ok : Nat → Bool} (h : ok m = true) : xfk a dd ⟨m, [f], vs⟩ f ok ρ (some (.imm false (.exn a dd [f] [d]))) = .ok (.imm false d) ρ := xfk_of h (by simp) (if_pos rfl)
theorem v_xfk2a {a dd m : Nat} {vs : List D} {ok : Nat → Bool} (h : ok m = true) : xfk a dd ⟨m, [f, g], vs⟩ f ok ρ (some (.imm false (.exn a dd [f, g] [d, e]))) = .ok (.imm false d) ρ := xfk_of h (by simp) (if_pos rfl)
theorem v_xfk2b {a dd m : Nat} {vs : List D} {ok : Nat → Bool} (h : ok m = true) (h2 : ¬ f = g) : xfk a dd ⟨m, [f, g], vs⟩ g ok ρ (some (.imm false (.exn a dd [f, g] [d, e]))) = .ok (.imm false e) ρ := xfk_of h (by simp) ((if_neg h2).trans (if_pos rfl))
theorem v_inT_str {y : Nat} : gInT (.str ⟨#[y]⟩) (.str z) = some (.bl (decide (y ∈ z.cps.toList))) := rfl
theorem v_ninT_str {y : Nat} : gNinT (.str ⟨#[y]⟩) (.str z) = some (.bl (!decide (y ∈ z.cps.toList))) := rfl
theorem v_inT_non : gInT .non e = gIn .non e := rfl
theorem v_inT_int : gInT (.int i) e = gIn (.int i) e := rfl
theorem v_inT_bl : gInT (.bl b) e = gIn (.bl b) e := rfl
theorem v_inT_lst : gInT d (.lst ds) = gIn d (.lst ds) := by cases d <;> rfl
theorem v_ninT_non : gNinT .non e = gNin .non e := rfl
theorem v_ninT_int : gNinT (.int i) e = gNin (.int i) e := rfl
theorem v_ninT_bl : gNinT (.bl b) e = gNin (.bl b) e := rfl
theorem v_ninT_lst : gNinT d (.lst ds) = gNin d (.lst ds) := by cases d <;> rfl
end
end Gb

namespace Gb
open PySem PySem.Spec L2
/-! what can be shown: ints of up to seventy figures, texts -/
mutual
def D.sm9 : D → Bool
  | .non | .bl _ => true
  | .int i => decide (i.natAbs < 10 ^ 90)
  | .str x => x.cps.toList.all fun c => decide (c < 16 ^ 8)
  | .lst xs | .tup xs => D.sm9s xs
  | .scr _ | .ty _ | .dic _ _ | .obj _ _ _ | .exn _ _ _ _ => false
def D.sm9s : List D → Bool
  | [] => true
  | d :: ds => d.sm9 && D.sm9s ds
end
theorem sm9_int {i : Int} (h : i.natAbs < 10 ^ 90) : i.natAbs.log2 < 1920 ∧ (PyData.shown (.int i)).length ≤ 92 := by
  have e := int_text_length_le10 (k := 90) (by decide) h
  refine ⟨?_, ?_⟩
  · refine log2_small (Nat.lt_trans h ?_)
    decide +kernel
  · simp only [PyData.shown]
    rw [ofString_length]
    omega
mutual
theorem sm9_py : (d : D) → d.sm9 = true → ∃ p, d.py = some p ∧ p.showable = true ∧ p.hasDict = false ∧ p.leavesShort 92 = true ∧ p.depth = d.dp ∧ p.bulk = d.bk
  | .non, _ => ⟨.none, rfl, by simp [PyData.showable], by simp [PyData.hasDict], by simp [PyData.leavesShort], by simp [PyData.depth, D.dp], by simp [PyData.bulk, D.bk]⟩
  | .bl b, _ => ⟨.bool b, rfl, by simp [PyData.showable], by simp [PyData.hasDict], by simp [PyData.leavesShort], by simp [PyData.depth, D.dp], by simp [PyData.bulk, D.bk]⟩
  | .int i, h => by
    have h : i.natAbs < 10 ^ 90 := of_decide_eq_true h
    have h2 := sm9_int h
    exact ⟨.int i, rfl, by simp [PyData.showable, h2.1], by simp [PyData.hasDict], by simp [PyData.leavesShort, h2.2], by simp [PyData.depth, D.dp], by simp [PyData.bulk, D.bk]⟩
  | .str x, h => by
    have h : (x.cps.toList.all fun c => decide (c < 16 ^ 8)) = true := h
    refine ⟨.str x, rfl, by simp [PyData.showable], by simp [PyData.hasDict], ?_, by simp [PyData.depth, D.dp], by simp [PyData.bulk, D.bk]⟩
    unfold PyData.leavesShort
    exact h
  | .lst xs, h => by
    obtain ⟨ps, e, h1, h2, h3, h4, h5⟩ := sm9s_pys xs h
    exact ⟨.list ps, by simp [D.py, e], by simpa [PyData.showable] using h1, by simpa [PyData.hasDict] using h2, by simpa [PyData.leavesShort] using h3, by simp [PyData.depth, D.dp, h4], by simp [PyData.bulk, D.bk, h5]⟩
  | .tup xs, h => by
    obtain ⟨ps, e, h1, h2, h3, h4, h5⟩ := sm9s_pys xs h
    exact ⟨.tuple ps, by simp [D.py, e], by simpa [PyData.showable] using h1, by simpa [PyData.hasDict] using h2, by simpa [PyData.leavesShort] using h3, by simp [PyData.depth, D.dp, h4], by simp [PyData.bulk, D.bk, h5]⟩
  | .scr _, h => by cases h
  | .ty _, h => by cases h
  | .dic _ _, h => by cases h
  | .obj _ _ _, h => by cases h
  | .exn _ _ _ _, h => by cases h
theorem sm9s_pys : (ds : List D) → D.sm9s ds = true → ∃ ps, D.pys ds = some ps ∧ PyData.showableAll ps = true ∧ PyData.hasDictAll ps = false ∧ PyData.leavesShortAll 92 ps = true ∧ PyData.depthAll ps = D.dps ds ∧ PyData.bulkAll ps = D.bks ds
  | [], _ => ⟨[], rfl, by simp [PyData.showableAll], by simp [PyData.hasDictAll], by simp [PyData.leavesShortAll], by simp [PyData.depthAll, D.dps], by simp [PyData.bulkAll, D.bks]⟩
  | d :: ds, h => by
    have h : (d.sm9 && D.sm9s ds) = true := h
    rw [Bool.and_eq_true] at h
    obtain ⟨p, e, h1, h2, h3, h4, h5⟩ := sm9_py d h.1
    obtain ⟨ps, e', h1', h2', h3', h4', h5'⟩ := sm9s_pys ds h.2
    exact ⟨p :: ps, by simp [D.pys, e, e'], by simp [PyData.showableAll, h1, h1'], by simp [PyData.hasDictAll, h2, h2'], by simp [PyData.leavesShortAll, h3, h3'], by simp [PyData.depthAll, D.dps, h4, h4'], by simp [PyData.bulkAll, D.bks, h5, h5']⟩
end
theorem shw9_ok {d : D} (h : d.sm9 = true) (hd : d.dp ≤ 60) (hb : d.bk ≤ 150000) : ∃ s, d.shw = some s := by
  obtain ⟨p, e, h1, h2, h3, h4, h5⟩ := sm9_py d h
  have hl := PyData.shown_le_bulk 92 (by decide) p h3
  have hz : p.shown.length ≤ sizeLine := by
    rw [sizeLine_eq]
    rw [h5] at hl
    omega
  refine ⟨p.shown, ?_⟩
  unfold D.shw shwOk
  simp [e, h1, h2, h4, hd, hz]
theorem sm9s_of : ∀ {ds : List D}, (∀ d ∈ ds, d.sm9 = true) → D.sm9s ds = true
  | [], _ => rfl
  | d :: ds, h => by
    show (d.sm9 && D.sm9s ds) = true
    rw [h d List.mem_cons_self, sm9s_of fun e he => h e (List.mem_cons_of_mem _ he)]
    rfl
end Gb

namespace Gb
open PySem PySem.Spec L2
end Gb

namespace Gb
open PySem PySem.Spec L2
section
variable {C : Ct} {W : WX} {pn ch : List Nat} {w w' : Wd} {H H' : Hp} {σ σ' : L2.St} {En : Ends} {X : Cx} {ca : Cad} {ρ : List T} {t u : T} {v x : Option V}
theorem call_repr_X (hu : X.A.units + 64 < cLine) (hg : X.A.guards = some []) : CallR X (.builtin "repr") (fun xs H Q => ∃ v p, xs = [v] ∧ Dp X.K H v p ∧ shwOk p = true ∧ Q (.str p.shown) H) := by
  intro pins s σ H xs us Q I r h
  obtain ⟨v, p, rfl, hp, hk, q⟩ := h
  obtain ⟨u, rfl, rv⟩ := vals1 r
  obtain ⟨as, rd⟩ := Dp.reads I p v u hp rv
  unfold shwOk at hk
  simp only [Bool.and_eq_true, Bool.not_eq_true', decide_eq_true_eq] at hk
  obtain ⟨h1, h2, h3, h4⟩ := hk
  have fin : ∀ t h' tk, (∀ b o, s.heap.get? b = some o → h'.get? b = some o) → EP X pins σ Q (.str p.shown t) { s with heap := h', toks := tk } :=
    fun t h' tk kk => ⟨.str p.shown, H, I.kept kk, ⟨t, rfl⟩, q⟩
  have rest : ∀ a, u = .ref a → wpAny (model X.prog X.w) X.A (call (.builtin "repr") [u]) (EP X pins σ Q) X.xe s := fun a e => by
    subst e
    exact repr_of_reads' rd h1 (fun z => by rw [h2] at z; cases z) hg (by omega) (fun _ _ e => e) (fun h' t tk kk => fin t h' tk kk) h4
  cases rd with
  | none =>
    refine PySem.P.repr_of_none ?_
    have := fin s.toks s.heap (s.toks + 1) (fun _ _ e => e)
    simpa only [PyData.shown] using this
  | bool b =>
    refine PySem.P.repr_of_bool ?_
    have := fin s.toks s.heap (s.toks + 1) (fun _ _ e => e)
    simpa only [PyData.shown] using this
  | int i t =>
    refine PySem.P.repr_of_int (by simpa [PyData.showable] using h1) ?_
    have := fin s.toks s.heap (s.toks + 1) (fun _ _ e => e)
    simpa only [PyData.shown] using this
  | str y t =>
    have h4' : (reprText y).length ≤ sizeLine := by simpa only [PyData.shown] using h4
    refine PySem.P.repr_of_str ?_ h4'
    have := fin s.toks s.heap (s.toks + 1) (fun _ _ e => e)
    simpa only [PyData.shown] using this
  | list _ _ _ _ => exact rest _ rfl
  | tuple _ _ _ _ => exact rest _ rfl
  | dict _ _ _ _ _ => exact rest _ rfl
theorem cs_reprX (hu : X.A.units + 64 < cLine) (hg : X.A.guards = some []) : CalS X ca W (.builtin "repr") fRepr := ⟨_, call_repr_X hu hg, fun w H σ Q ts ρ vs l S kk => by
  unfold fRepr at kk
  split at kk
  · rename_i b d
    obtain ⟨v, rfl, S1⟩ := arg1 l S
    unfold D.shw at kk
    cases hp : d.py with
    | none => rw [hp] at kk; exact kk.elim
    | some p =>
      rw [hp] at kk
      cases ho : shwOk p with
      | false => simp only [Option.bind_some, ho, Bool.false_eq_true, if_false] at kk; exact kk.elim
      | true =>
        simp only [Option.bind_some, ho, if_true] at kk
        exact ⟨v, p, rfl, RD_py _ _ _ S1.head_rd hp, ho, kk w H (.str p.shown) .refl (S1.drop.cons_imm rfl)⟩
  · exact kk.elim⟩
end
end Gb

namespace Gb
open PySem PySem.Spec L2
end Gb

namespace Gb
open PySem PySem.Spec L2
open SX (S S_len S_cat S_inj)
/-! texts by their signs -/
def txD (l : List Nat) : D := .str (S l)
def sgD (c : Nat) : D := .str (S [c])
def sp (c : Nat) : List Nat → List (List Nat)
  | [] => [[]]
  | d :: r => if d = c then [] :: sp c r else match sp c r with
    | [] => [[d]]
    | w :: ws => (d :: w) :: ws
theorem sp_ne (c : Nat) : ∀ l, sp c l ≠ []
  | [] => by simp [sp]
  | d :: r => by
    unfold sp
    split
    · simp
    · split <;> simp
theorem spl_sp (c : Nat) : ∀ (l acc : List Nat), TL.spl [c] 0 acc l = (match sp c l with | [] => [acc] | w :: ws => (acc ++ w) :: ws)
  | [], acc => by simp [TL.spl, sp]
  | d :: r, acc => by
    have hp : TL.pre [c] (d :: r) = decide (d = c) := by
      show ((d :: r).take 1 == [c]) = _
      simp [List.take]
      by_cases h : d = c <;> simp [h]
    unfold TL.spl sp
    rw [hp]
    by_cases h : d = c
    · rw [if_pos (by simpa using h), if_pos h]
      show acc :: TL.spl [c] 0 [] r = (acc ++ []) :: sp c r
      rw [spl_sp c r [], List.append_nil]
      cases e : sp c r with
      | nil => exact absurd e (sp_ne c r)
      | cons w ws => simp
    · rw [if_neg (by simpa using h), if_neg h, spl_sp c r (acc ++ [d])]
      cases e : sp c r with
      | nil => exact absurd e (sp_ne c r)
      | cons w ws => simp
theorem split_sp (c : Nat) (hc : c < 256) (a : List Nat) : Txt.split (S a) (S [c]) = (sp c a).map S := by
  rw [SX.split_S (by simp) (by simp [hc]), spl_sp c a []]
  cases e : sp c a with
  | nil => exact absurd e (sp_ne c a)
  | cons w ws => simp
theorem sp_word (c : Nat) : ∀ (a w : List Nat), w ∈ sp c a → w.length ≤ a.length ∧ ∀ x ∈ w, x ∈ a ∧ x ≠ c
  | [], w, h => by
    unfold sp at h
    obtain rfl := List.mem_singleton.mp h
    simp
  | d :: r, w, h => by
    unfold sp at h
    split at h
    · rcases List.mem_cons.mp h with rfl | h
      · simp
      · obtain ⟨h1, h2⟩ := sp_word c r w h
        exact ⟨by simp; omega, fun x hx => ⟨List.mem_cons_of_mem _ (h2 x hx).1, (h2 x hx).2⟩⟩
    · rename_i hd
      split at h
      · obtain rfl := List.mem_singleton.mp h
        exact ⟨by simp, fun x hx => by obtain rfl := List.mem_singleton.mp hx; exact ⟨List.mem_cons_self, hd⟩⟩
      · rename_i v vs e
        rcases List.mem_cons.mp h with rfl | h
        · obtain ⟨h1, h2⟩ := sp_word c r v (by rw [e]; exact List.mem_cons_self)
          refine ⟨by simp; omega, fun x hx => ?_⟩
          rcases List.mem_cons.mp hx with rfl | hx
          · exact ⟨List.mem_cons_self, hd⟩
          · exact ⟨List.mem_cons_of_mem _ (h2 x hx).1, (h2 x hx).2⟩
        · obtain ⟨h1, h2⟩ := sp_word c r w (by rw [e]; exact List.mem_cons_of_mem _ h)
          exact ⟨by simp; omega, fun x hx => ⟨List.mem_cons_of_mem _ (h2 x hx).1, (h2 x hx).2⟩⟩
/-- a word without the sign, the sign behind it -/
theorem sp_app (c : Nat) : ∀ (w r : List Nat), (∀ x ∈ w, x ≠ c) → sp c (w ++ c :: r) = w :: sp c r
  | [], r, _ => by simp [sp]
  | d :: w, r, h => by
    have hd := h d List.mem_cons_self
    have ih := sp_app c w r fun x hx => h x (List.mem_cons_of_mem _ hx)
    rw [List.cons_append]
    rw [sp, if_neg hd, ih]
theorem sp_free (c : Nat) : ∀ (w : List Nat), (∀ x ∈ w, x ≠ c) → sp c w = [w]
  | [], _ => rfl
  | d :: w, h => by
    have hd := h d List.mem_cons_self
    have ih := sp_free c w fun x hx => h x (List.mem_cons_of_mem _ hx)
    rw [sp, if_neg hd, ih]
theorem sp_join (c : Nat) : ∀ ws : List (List Nat), ws ≠ [] → (∀ w ∈ ws, ∀ x ∈ w, x ≠ c) → sp c (TL.joinL [c] ws) = ws
  | [], h, _ => absurd rfl h
  | [w], _, h => sp_free c w (h w List.mem_cons_self)
  | w :: v :: ws, _, h => by
    show sp c (w ++ ([c] ++ TL.joinL [c] (v :: ws))) = _
    rw [List.singleton_append, sp_app c w _ (h w List.mem_cons_self), sp_join c (v :: ws) (by simp) fun u hu => h u (List.mem_cons_of_mem _ hu)]
theorem joinL_nil : ∀ ws : List (List Nat), TL.joinL [] ws = ws.flatten
  | [] => rfl
  | [w] => by show w = _; simp
  | w :: v :: ws => by
    show w ++ ([] ++ TL.joinL [] (v :: ws)) = _
    rw [joinL_nil (v :: ws)]
    simp
theorem flat_sg : ∀ l : List Nat, (l.map fun c => [c]).flatten = l
  | [] => rfl
  | c :: l => by rw [List.map_cons, List.flatten_cons, flat_sg l]; rfl
theorem strD_S (l : List Nat) : strD (S l) = l.map sgD := rfl
theorem cutS_S (a : List Nat) (lo hi : Option Int) : cutS (S a) lo hi = S (cutD a lo hi) := by
  unfold cutS cutD
  simp only [S_len]
section
variable {α β : Type} {ρ : List T} {da db dc de : DE} {d e : D} {b b1 b2 b3 : Bool} {i j : Int} {n k c : Nat} {ds es : List D} {t u : T} {ts : List T} {a x y : List Nat}
theorem v_S_eq : (S a = S x) = (a = x) := propext ⟨fun h => S_inj h, fun h => by rw [h]⟩
theorem v_add_S (h : a.length + x.length ≤ 16777216) : fAdd (.imm b1 (.str (S a))) (.imm b2 (.str (S x))) ρ = .ok (.imm false (.str (S (a ++ x)))) ρ := by
  rw [v_add_str (by rw [S_len, S_len]; exact h), S_cat]
theorem v_eq_S : gEq (.str (S a)) (.str (S x)) = some (.bl (decide (a = x))) := by
  rw [v_eq_str]
  congr 2
  by_cases h : a = x
  · rw [h]; simp
  · rw [decide_eq_false h, decide_eq_false fun z => h (S_inj z)]
theorem v_ne_S : gNe (.str (S a)) (.str (S x)) = some (.bl (!decide (a = x))) := by
  rw [v_ne_str]
  congr 3
  by_cases h : a = x
  · rw [h]; simp
  · rw [decide_eq_false h, decide_eq_false fun z => h (S_inj z)]
theorem v_items_S (h : a.length ≤ 16777216) : itemsOf (.imm b (.str (S a))) ρ = .ok (false, a.map sgD) ρ := by
  show (if (S a).length ≤ sizeLine then ER.ok (false, strD (S a)) ρ else .bad) = _
  rw [if_pos (by rw [S_len]; exact h), strD_S]
theorem v_gIx_S (h : a.length ≤ 16777216) : gIx b (.str (S a)) i = (L2.atI a i).map fun c => T.imm false (sgD c) := by
  show (if (S a).length ≤ sizeLine then (L2.atI (S a).cps.toList i).map fun c => T.imm false (.str ⟨#[c]⟩) else none) = _
  rw [if_pos (by rw [S_len]; exact h)]
  rfl
theorem v_fSl_S {lo hi : Option Int} (h : a.length ≤ 16777216) : fSl (.imm b (.str (S a))) lo hi ρ = .ok (.imm false (.str (S (cutD a lo hi)))) ρ := by
  have e : fSl (.imm b (.str (S a))) lo hi ρ = (if (S a).length ≤ sizeLine then .ok (.imm false (.str (cutS (S a) lo hi))) ρ else .bad) := by cases b <;> rfl
  rw [e, if_pos (by rw [S_len]; exact h), cutS_S]
theorem v_len_S (h : a.length ≤ 16777216) : D.len? (.str (S a)) = some a.length := by
  show (if (S a).length ≤ sizeLine then some (S a).length else none) = _
  rw [if_pos (by rw [S_len]; exact h), S_len]
theorem v_fSplit_S (h1 : c < 256) (h2 : a.length ≤ 16777000) : fSplit (S a) (.imm b (.str (S [c]))) ρ = .ok (.lstI ((sp c a).map txD)) ρ := by
  rw [v_fSplit (by rw [S_len]; rfl) (by rw [S_len]; omega), split_sp c h1, List.map_map]
  rfl
theorem fJoin_S {ws : List (List Nat)} (h : (ws.map (·.length)).sum + ws.length * a.length ≤ 16777216) : fJoin (S a) (.imm b (.lst (ws.map txD))) ρ = .ok (.imm false (.str (S (TL.joinL a ws)))) ρ := by
  have e : ws.map txD = (ws.map S).map D.str := by rw [List.map_map]; rfl
  rw [e, fJoin_ok (by rw [SX.lens, List.length_map, S_len]; exact h), SX.join_S]
theorem sum_ones : ∀ l : List Nat, ((l.map fun c => [c]).map (·.length)).sum = l.length
  | [] => rfl
  | c :: l => by
    have ih := sum_ones l
    simp only [List.map_cons, List.sum_cons, List.length_cons, List.length_nil] at ih ⊢
    omega
/-- signs joined by nothing -/
theorem v_fJoin_sg (h : a.length ≤ 16777216) : fJoin (S []) (.imm b (.lst (a.map sgD))) ρ = .ok (.imm false (.str (S a))) ρ := by
  have e : a.map sgD = (a.map fun c => [c]).map txD := by rw [List.map_map]; rfl
  rw [e, fJoin_S (by rw [sum_ones, List.length_map]; simp; omega), joinL_nil, flat_sg]
theorem v_inT_S : gInT (sgD c) (.str (S a)) = some (.bl (decide (c ∈ a))) := rfl
theorem v_ninT_S : gNinT (sgD c) (.str (S a)) = some (.bl (!decide (c ∈ a))) := rfl
end
/-- whole numbers from nought on, by their figures -/
theorem str_nat (n : Nat) (h : n < 10000000000000000000000000000000000000000000000000000000000000000000000) (b : Bool) (ρ : List T) : fStr [.imm b (.int (n : Nat))] ρ = .ok (.imm false (.str (S (TL.numL n)))) ρ := by
  show (if ((n : Nat) : Int).natAbs.log2 < 1920 then ER.ok (T.imm false (.str (toString ((n : Nat) : Int)))) ρ else ER.bad) = _
  have h2 : ((n : Nat) : Int).natAbs.log2 < 1920 := by
    rw [Int.natAbs_natCast]
    refine log2_small (Nat.lt_trans h ?_)
    decide +kernel
  rw [if_pos h2]
  show ER.ok (T.imm false (.str (Str.ofString (toString ((n : Nat) : Int))))) ρ = _
  rw [SX.num_S]
/-- four figures -/
def fig4 (n : Nat) : List Nat := [48 + n / 1000 % 10, 48 + n / 100 % 10, 48 + n / 10 % 10, 48 + n % 10]
theorem zfill4 {l : List Nat} (hl : l.length ≤ 4) (hd : ∀ c, l[0]? = some c → c ≠ 43 ∧ c ≠ 45) : Txt.zfill (S l) 4 = S (List.replicate (4 - l.length) 48 ++ l) := by
  unfold Txt.zfill
  by_cases h : (4 : Int) ≤ ((S l).length : Int)
  · rw [if_pos h]
    rw [S_len] at h
    rw [show 4 - l.length = 0 by omega]; rfl
  · rw [if_neg h]
    have e : (S l).cps[0]? = l[0]? := by simp
    unfold zfilled
    rw [e]
    have ep : Builtin.Str.padded (S l) ((4 : Int).toNat - (S l).length) 0 48 = S (List.replicate (4 - l.length) 48 ++ l) := by
      rw [S_len]
      unfold Builtin.Str.padded
      show (⟨_⟩ : Str) = ⟨_⟩
      congr 1
      apply Array.toList_inj.mp
      simp
    cases hc : l[0]? with
    | none => exact ep
    | some c =>
      have := hd c hc
      split
      · rename_i h1; cases h1; exact absurd rfl this.1
      · rename_i h1; cases h1; exact absurd rfl this.2
      · exact ep
theorem num_fig4 {n : Nat} (h : n < 10000) : List.replicate (4 - (TL.numL n).length) 48 ++ TL.numL n = fig4 n := by
  unfold fig4
  by_cases h1 : n < 10
  · rw [TL.numL_lt h1, show n / 1000 = 0 by omega, show n / 100 = 0 by omega, show n / 10 = 0 by omega, Nat.mod_eq_of_lt h1]; rfl
  · by_cases h2 : n < 100
    · rw [TL.numL_step (by omega), TL.numL_lt (n := n / 10) (by omega), show n / 1000 = 0 by omega, show n / 100 = 0 by omega, Nat.mod_eq_of_lt (show n / 10 < 10 by omega)]; rfl
    · by_cases h3 : n < 1000
      · rw [TL.numL_step (by omega), TL.numL_step (n := n / 10) (by omega), TL.numL_lt (n := n / 10 / 10) (by omega), show n / 1000 = 0 by omega, show n / 10 / 10 = n / 100 by omega, Nat.mod_eq_of_lt (show n / 100 < 10 by omega)]; rfl
      · rw [TL.numL_step (by omega), TL.numL_step (n := n / 10) (by omega), TL.numL_step (n := n / 10 / 10) (by omega), TL.numL_lt (n := n / 10 / 10 / 10) (by omega), show n / 10 / 10 / 10 = n / 1000 by omega, show n / 10 / 10 = n / 100 by omega, Nat.mod_eq_of_lt (show n / 1000 < 10 by omega)]; rfl
theorem numL_len4 {n : Nat} (h : n < 10000) : (TL.numL n).length ≤ 4 := TL.numL_len (k := 4) (by omega) (by omega)
theorem zfill_num {n : Nat} (h : n < 10000) : Txt.zfill (S (TL.numL n)) 4 = S (fig4 n) := by
  rw [zfill4 (numL_len4 h) fun c hc => ?_, num_fig4 h]
  have := TL.numL_digits n c (List.mem_of_getElem? hc)
  omega
theorem v_zfill (n : Nat) (h : n < 10000) (b : Bool) (ρ : List T) : fZfill (S (TL.numL n)) (.imm b (.int 4)) ρ = .ok (.imm false (.str (S (fig4 n)))) ρ := by
  show (if PadOk 4 = true then ER.ok (T.imm false (.str (Txt.zfill (S (TL.numL n)) 4))) ρ else .bad) = _
  rw [if_pos (by decide +kernel), zfill_num h]
def isDig (c : Nat) : Bool := decide (48 ≤ c) && decide (c ≤ 57)
/-- int(word) of figures -/
theorem int_fig (w : List Nat) (h : ∀ c ∈ w, isDig c = true) (hne : w ≠ []) (hl : w.length ≤ 640) (b : Bool) (ρ : List T) : fInt [.imm b (.str (S w))] ρ = .ok (.imm false (.int (NumText.digitsVal w : Nat))) ρ := by
  have e : PySem.intText? (S w) = some ((NumText.digitsVal w : Nat) : Int) := SX.int_S (List.all_eq_true.mpr fun c hc => h c hc) hne (by omega)
  show (match PySem.intText? (S w) with
    | some n => if (S w).length ≤ 640 then ER.ok (T.imm false (.int n)) ρ else .bad
    | none => .bad) = _
  rw [e]
  show (if (S w).length ≤ 640 then _ else _) = _
  rw [if_pos (by rw [S_len]; exact hl)]
/-- the sixteen signs -/
def sg16 : List Nat := [48, 49, 50, 51, 52, 53, 54, 55, 56, 57, 97, 98, 99, 100, 101, 102]
def fg10 : List Nat := [48, 49, 50, 51, 52, 53, 54, 55, 56, 57]
theorem lit16 : ("0123456789abcdef" : PySem.Str) = S sg16 := by decide +kernel
theorem lit10 : ("0123456789" : PySem.Str) = S fg10 := by decide +kernel
theorem lit_blank : (" " : PySem.Str) = S [32] := by decide +kernel
theorem lit_empty : ("" : PySem.Str) = S [] := by decide +kernel
def sg (i : Nat) : Nat := (sg16[i]?).getD 0
theorem sg_at {i : Nat} (h : i < 16) : L2.atI sg16 (i : Int) = some (sg i) := atI_nat (by
  have hl : i < sg16.length := h
  unfold sg
  rw [List.getElem?_eq_getElem hl]; rfl)
def ix16 (c : Nat) : Nat := if c ≤ 57 then c - 48 else c - 87
theorem ix_sgF : ∀ i : Fin 16, ix16 (sg i.val) = i.val ∧ sg i.val ∈ sg16 := by decide
theorem ix_sg {i : Nat} (h : i < 16) : ix16 (sg i) = i := (ix_sgF ⟨i, h⟩).1
theorem sg_ix {c : Nat} (h : c ∈ sg16) : sg (ix16 c) = c ∧ ix16 c < 16 := by
  simp only [sg16, List.mem_cons, List.not_mem_nil, or_false] at h
  rcases h with rfl | rfl | rfl | rfl | rfl | rfl | rfl | rfl | rfl | rfl | rfl | rfl | rfl | rfl | rfl | rfl <;> decide
theorem sg_mem {i : Nat} (h : i < 16) : sg i ∈ sg16 := (ix_sgF ⟨i, h⟩).2
theorem fg_mem {c : Nat} : c ∈ fg10 ↔ isDig c = true := by
  unfold fg10 isDig
  simp only [List.mem_cons, List.not_mem_nil, or_false, Bool.and_eq_true, decide_eq_true_eq]
  omega
theorem occ16 : ∀ i : Fin 16, Builtin.Str.occurrences (S sg16) (S [sg i]) 0 (S sg16).length 1 = [i.val] := by decide +kernel
theorem v_index16 {c : Nat} (h : c ∈ sg16) (b : Bool) (ρ : List T) : fIndexT (S sg16) (.imm b (sgD c)) ρ = .ok (.imm false (.int (ix16 c : Nat))) ρ := by
  obtain ⟨e, hi⟩ := sg_ix h
  have o := occ16 ⟨ix16 c, hi⟩
  simp only [e] at o
  show (match Builtin.Str.occurrences (S sg16) (S [c]) 0 (S sg16).length 1 with
    | i :: _ => ER.ok (T.imm false (.int (i : Nat))) ρ
    | [] => .bad) = _
  rw [o]
theorem occ10 : ∀ i : Fin 10, Builtin.Str.occurrences (S fg10) (S [48 + i.val]) 0 (S fg10).length 1 = [i.val] := by decide +kernel
theorem v_index10 {c : Nat} (h : isDig c = true) (b : Bool) (ρ : List T) : fIndexT (S fg10) (.imm b (sgD c)) ρ = .ok (.imm false (.int (c - 48 : Nat))) ρ := by
  unfold isDig at h
  rw [Bool.and_eq_true, decide_eq_true_eq, decide_eq_true_eq] at h
  have o := occ10 ⟨c - 48, by omega⟩
  simp only [show 48 + (c - 48) = c by omega] at o
  show (match Builtin.Str.occurrences (S fg10) (S [c]) 0 (S fg10).length 1 with
    | i :: _ => ER.ok (T.imm false (.int (i : Nat))) ρ
    | [] => .bad) = _
  rw [o]
end Gb

namespace Gb
open PySem PySem.Spec L2
section
variable {C : Ct} {W : WX} {w w' : Wd} {H H' : Hp} {σ σ' : L2.St} {Q : VK} {X : Cx} {ca : Cad} {ρ : List T} {t u : T}
/-! list.index of plain data -/
def idxL (d e : D) : Option Nat := match d.py, e.py with
  | some (.list qs), some p => if SeqAt.shaped (.list qs) && SeqAt.shaped p then qs.findIdx? (fun z => PyData.eqv z p) else none
  | _, _ => none
def lxk2 (d : D) : T → List T → ER T
  | .imm _ e, ρ => (match idxL d e with
    | some j => .ok (.imm false (.int (j : Nat))) ρ
    | none => .bad)
  | _, _ => .bad
def lxk (db : DE) : T → List T → ER T
  | .imm _ (.lst ds), ρ => (db ρ).bind (lxk2 (.lst ds))
  | _, _ => .bad
def dLIdx (da db : DE) : DE := fun ρ => (da ρ).bind (lxk db)
theorem v_LIdx {da db : DE} {ρ : List T} : dLIdx da db ρ = bnd (da ρ) (lxk db) := rfl
theorem v_lxk {db : DE} {ρ : List T} {b : Bool} {ds : List D} : lxk db (.imm b (.lst ds)) ρ = bnd (db ρ) (lxk2 (.lst ds)) := rfl
theorem v_lxk2 {ρ : List T} {b : Bool} {d e : D} {j : Nat} (h : idxL d e = some j) : lxk2 d (.imm b e) ρ = .ok (.imm false (.int (j : Nat))) ρ := by
  unfold lxk2
  simp only [h]
end
end Gb

namespace Gb
open PySem PySem.Spec L2
open Sem (wp)
open AutoSeq1 (wpAny_loadPart')
/-! enumerate(zip(list, list)): zip's pairs stay with it as held or go, both are covered -/
abbrev IsZipS (h : Heap) (z TI TO : Addr) (f0 : Value) (fl : Bool) : Prop :=
  h.get? z = some { cls := .type "zip", dict := none, data := .fields #[f0, .bool fl, .bool false, .ref TI, .ref TO], slots := #[] }
def FZ (f0 : Value) (fl : Bool) : Prop := (f0 = .none ∧ fl = false) ∨ ∃ T : Nat, f0 = rawInt T
section
variable {prog : Program} {w : World} {A : Around} {E : Value → Shared → Prop} {s : Shared}
/-- the states of the two iterators -/
structure EZ (h : Heap) (e z TI TO i1 i2 l1 l2 : Addr) (i : Nat) : Prop where
  enum : ∃ old, IsEnum h e z ((i : Nat) : Int) old
  zip : ∃ f0 fl, FZ f0 fl ∧ IsZipS h z TI TO f0 fl
  ti : IsPair h TI (.ref i1) (.ref i2)
  to : ∃ a b, IsPair h TO a b
  it1 : h.IsListIter i1 l1 i
  it2 : h.IsListIter i2 l2 i
structure EApart (e z TI TO i1 i2 l1 l2 : Addr) : Prop where
  D : ZipApart z TI TO i1 i2 l1 l2
  ez : e ≠ z
  eTI : e ≠ TI
  eTO : e ≠ TO
  e1 : e ≠ i1
  e2 : e ≠ i2
  el1 : e ≠ l1
  el2 : e ≠ l2
end
end Gb

namespace Gb
open PySem PySem.Spec PyProof.Rows L2
open Sem (wp)
section
variable {prog : Program} {w : World} {A : Around} {E : Value → Shared → Prop} {s : Shared}
end
section
variable {C : Ct} {W : WX} {w w' : Wd} {H H' : Hp} {σ σ' : L2.St} {Q : VK} {X : Cx} {ca : Cad} {ρ : List T} {t u : T}
def enumZItems : List T → List T → ER (Bool × List D)
  | [.imm b (.lst ds), .imm c (.lst es)], ρ => if ds.length ≤ 16777216 then .ok (b || c, enD 0 (zpD ds es)) ρ else .bad
  | _, _ => .bad
def diEnumZ (da : DA) : DI := fun ρ => (da ρ).bind enumZItems
theorem v_iEnumZ {da : DA} {ρ : List T} : diEnumZ da ρ = bnd (da ρ) enumZItems := rfl
theorem v_enumZItems {b c : Bool} {ds es : List D} {ρ : List T} (h : ds.length ≤ 16777216) : enumZItems [.imm b (.lst ds), .imm c (.lst es)] ρ = .ok (b || c, enD 0 (zpD ds es)) ρ := if_pos h
end
end Gb

namespace Gb
open PySem PySem.Spec L2
section
variable {C : Ct} {W : WX} {pn ch : List Nat} {w w' : Wd} {H H' : Hp} {σ σ' : L2.St} {En : Ends} {X : Cx} {ca : Cad} {ρ : List T} {t u : T} {v x : Option V}
/-! try .. except X: (without a name) -/
def noExc : SR → SR
  | .exc _ _ => .bad
  | q => q
def dTry0 (r : Nat → Option Bool) (db ds : DS) : DS := fun ρ => match db ρ with
  | .exc e ρ1 => (match r e.c with
    | some true => noExc (ds ρ1)
    | some false => .exc e ρ1
    | none => .bad)
  | q => q
theorem kS_noExc {W' : WX} {D : Ends} : {q : SR} → kS C W pn w H σ D (noExc q) → kS C W' pn w H σ D q
  | .next ρ, k => k
  | .ret t ρ, k => k
  | .brk ρ, k => k
  | .cont ρ, k => k
  | .exc e ρ, k => k.elim
  | .bad, k => k.elim
theorem ss_try0 {xn : Str} {c : Value} {body suite : List Stmt} {b₀ : Stmt} {np pos pos' : Pos} {db ds : DS} {r : Nat → Option Bool} (hs : X.stack = X.env :: X.outer) (hf : X.env.frame = some X.env.locals)
    (hc : Names X xn c) (tk : Takes X W) (hr : CatchF X.K ca c r)
    (hb : ∀ (W : WX) (pn' : List (Addr × Obj)) (xe : Value → Shared → Prop), Takes (X.tr pn' xe) W → PassesOwn (model X.prog X.w) X.A X.env xe → SB (X.tr pn' xe) ca W pn body db)
    (hsu : ∀ (a : Addr) (oe : Obj) (pn' : List (Addr × Obj)), (∃ vs, oe.data = .fields vs) → SB (X.suite a ((a, oe) :: pn')) ca WF pn (b₀ :: suite) ds) :
    SS X ca W pn (.Try body [.ExceptHandler (some (.Name xn np)) none (b₀ :: suite) pos'] [] [] pos) (dTry0 r db ds) := by
  refine ⟨PS.imp (ps_try_only (c := c) (ts := fun _ _ _ D σ H => tS ⟨X.K, ca⟩ WF pn ds D σ H) (tb := fun W => tS ⟨X.K, ca⟩ W pn db) hs hf hc tk
    (fun W pn' xe t p => (hb W pn' xe t p).pss) (fun a oe cls d pn' hz hv => (hsu a oe pn' hv).pss)) fun D σ H h => ?_⟩
  obtain ⟨w, ρ, S, k⟩ := h
  refine ⟨w, ρ, S, ?_⟩
  unfold dTry0 at k
  cases eb : db ρ with
  | next ρ1 => rw [eb] at k; exact k
  | ret t ρ1 => rw [eb] at k; exact k
  | brk ρ1 => rw [eb] at k; exact k
  | cont ρ1 => rw [eb] at k; exact k
  | bad => rw [eb] at k; exact k
  | exc e ρ1 =>
    rw [eb] at k
    simp only at k
    intro w1 H1 σ1 cls dx A1 S1 P1 x1
    have k1 := kS.after A1 P1 k
    cases er : r e.c with
    | none => simp only [er] at k1; exact k1.elim
    | some b =>
      simp only [er] at k1
      have ex1 := x1.1
      refine ⟨b, by rw [ex1]; exact hr _ _ er, fun hbt a ha => ?_, fun hbf => ?_⟩
      · subst hbt
        simp only at k1
        exact ⟨w1, ρ1, S1, kS_noExc k1⟩
      · subst hbf
        simp only at k1
        exact k1 w1 H1 σ1 cls dx .refl S1 .refl x1
def tryk0 (r : Nat → Option Bool) (ds : DS) (q : SR) : SR := dTry0 r (fun _ => q) ds []
variable {r : Nat → Option Bool} {s1 s2 : DS} {e : Ex}
theorem v_Try0 : dTry0 r s1 s2 ρ = tryk0 r s2 (s1 ρ) := rfl
theorem v_tryk0 : tryk0 r s2 (.next ρ) = .next ρ := rfl
theorem v_tryk0_ret : tryk0 r s2 (.ret t ρ) = .ret t ρ := rfl
def tryq0 (s2 : DS) (e : Ex) (ρ : List T) : Option Bool → SR
  | some true => noExc (s2 ρ)
  | some false => .exc e ρ
  | none => .bad
theorem v_tryk0_exc : tryk0 r s2 (.exc e ρ) = tryq0 s2 e ρ (r e.c) := rfl
theorem v_tryq0_t : tryq0 s2 e ρ (some true) = noExc (s2 ρ) := rfl
theorem v_tryq0_f : tryq0 s2 e ρ (some false) = .exc e ρ := rfl
theorem v_noExc_next : noExc (.next ρ) = .next ρ := rfl
theorem v_noExc_ret : noExc (.ret t ρ) = .ret t ρ := rfl
theorem v_noExc_brk : noExc (.brk ρ) = .brk ρ := rfl
theorem v_noExc_cont : noExc (.cont ρ) = .cont ρ := rfl
end
end Gb

namespace Gb
open PySem PySem.Spec PyProof.Rows L2
/-! classes: C(..), o.m(..), o.f, self.f = .. (things that stand as they are once they are made) -/
theorem RoomG.make {k : Nat} {A : Around} (r : RoomG (k + 1) A) (C : Addr) (us : List Value) (kw : List (Str × Value)) : RoomG k (A.under (.builtin "type.__call__" ⟨.ref C :: us, kw⟩)) := ⟨r.r.make C us kw, r.g⟩
section
variable {X : Cx} {CX : CXT} {k : Nat} {f C : Addr} {fd : FuncData} {ps : List Str} {sp : Sp} {dvs : List V} {ds : List Value} {E : L2.St → XK} {x m : Str} {p pos apos : Pos} {e o : Expr} {es : List Expr} {ta : TE} {t : TA}
/-- C(..): a new instance and its dict, then __init__ -/
def tMakeS (C : Addr) (sp : Sp) (dvs : List V) (E : L2.St → XK) (t : TA) : TE := fun σ H Q => t σ H fun vs H1 => ∀ x dx, H1 x = none → H1 dx = none → dx ≠ x →
  sp (.ref x :: (vs ++ dvs)) (upd (upd H1 dx (.own x)) x (.ins C dx [])) (fun v H2 => v = .non ∧ Q (.ref x) H2) (E σ)
theorem run_makeS {pins : List (Addr × Obj)} {σ : L2.St} {H : Hp} {s : Shared} {Q : VK} {us : List Value} {vs : List V} (M : Mk X.K C f) (F : FnG X.prog X.w X.K X.mg X.base CX k f fd ps sp) (hr : RoomG (k + 1) X.A) (hb : Binds X.K fd ps ds) (hd : Vals dvs ds)
    (hx : PassesAt CX X σ (E σ)) (I : Inv X pins σ H s) (r : Vals vs us)
    (h : ∀ x dx, H x = none → H dx = none → dx ≠ x → sp (.ref x :: (vs ++ dvs)) (upd (upd H dx (.own x)) x (.ins C dx [])) (fun v H2 => v = .non ∧ Q (.ref x) H2) (E σ)) :
    wpAny (model X.prog X.w) X.A (call (.ref C) us) (EP X pins σ Q) X.xe s := by
  have hq := h (s.heap.objs.size + 1) s.heap.objs.size (I.hok.fresh (Nat.le_succ _)) (I.hok.fresh (Nat.le_refl _)) (Nat.ne_of_lt (Nat.lt_succ_self _))
  have I2 := Inv.made (C := C) I
  have r2 : Vals (V.ref (s.heap.objs.size + 1) :: (vs ++ dvs)) (Value.ref (s.heap.objs.size + 1) :: (us ++ ds)) := .cons rfl (r.append hd)
  have hl : (Value.ref (s.heap.objs.size + 1) :: us ++ ds).length = ps.length := by
    have e := r2.length
    rw [F.len _ _ _ _ hq] at e
    exact e.symm
  refine wpAny_call (make_map (f := f) I.kIn M.makes M.init (beq_iff_eq.mp M.fn) (codeAny_mono (F.run _ X.stack _ _ ⟨Value.ref (s.heap.objs.size + 1) :: us, []⟩ (Value.ref (s.heap.objs.size + 1) :: (us ++ ds)) _ _ (E σ) (hr.make C us [])
    (I2.env0.make C us []) (hb _ (Value.ref (s.heap.objs.size + 1) :: us) I2.kIn hl) r2 hq) fun r s' hq' => ?_))
  cases r with
  | error e => exact hx pins _ _ e s' I2 hq'
  | ok fl =>
    cases fl with
    | ret u =>
      obtain ⟨v, H', I3, rv, ev, q3⟩ := I2.after hq'
      subst ev
      exact ⟨rv, ⟨V.ref (s.heap.objs.size + 1), H', I3, rfl, q3⟩⟩
    | next => exact False.elim hq'
    | brk => exact False.elim hq'
    | cont => exact False.elim hq'
theorem pe_makeS (M : Mk X.K C f) (F : FnG X.prog X.w X.K X.mg X.base CX k f fd ps sp) (hr : RoomG (k + 1) X.A) (hg : Gl X x) (hm : X.mg x = some (.ref C)) (hb : Binds X.K fd ps ds) (hd : Vals dvs ds) (hx : ∀ σ, PassesAt CX X σ (E σ))
    (ha : PA X (e :: es) t) (hdb : (x == ("__debug__" : Str)) = false := by decide) (he : starEach (e :: es) X.env = (false, eval e X.env) :: starEach es X.env := by rfl) (hpl : (backTo pos (starEach es X.env)).any (·.1) = false := by rfl) :
    PE X (.Call (.Name x p) (e :: es) [] pos) (tMakeS C sp dvs E t) := by
  refine ⟨fun pins s σ H Q I h => ?_⟩
  refine wpAny_Call_Name_kw (ld_glob I hg hm ?_ hdb)
  refine PySem.W.callWith_K (h₀ := X.base) I.ok.mod.kin M.kp (thn (ha.run pos pins s σ H _ I h) fun us s1 ⟨vs, H1, I1, r, q⟩ => ⟨I1.kIn, ?_⟩) he hpl
  exact run_makeS M F hr hb hd (hx σ) I1 r q
def tMethSD (C : Addr) (m : Str) (sp : Sp) (dvs : List V) (E : L2.St → XK) (ta : TE) (t : TA) : TE := fun σ H Q => ta σ H fun x H1 => ∃ a dx fs, x = .ref a ∧ H1 a = some (.ins C dx fs) ∧ fs.lookup m = none ∧
  t σ H1 fun vs H2 => sp (x :: (vs ++ dvs)) H2 Q (E σ)
theorem pe_methSD {pl : Sem Bool} (he : PE X o ta) (c : Cls X.K C) (hm : Meth X.K C m f) (F : FnG X.prog X.w X.K X.mg X.base CX k f fd ps sp) (hr : RoomG k X.A) (hb : Binds X.K fd ps ds) (hd : Vals dvs ds) (hx : ∀ σ, PassesAt CX X σ (E σ)) (ha : PA X (e :: es) t)
    (hst : starEach (e :: es) X.env = (false, eval e X.env) :: starEach es X.env := by rfl) (hpl : (backTo pos (starEach es X.env)).any (·.1) = false := by rfl)
    (ht : eval (.Call (.Attribute o m apos) (e :: es) [] pos) X.env = (do
      let ov ← eval o X.env
      standAt apos.atName
      let (f, first) ← holding [ov] (getMethod ov m pl)
      callWith pos f first (backTo pos (starEach (e :: es) X.env)) (backToKw pos (keywordEach [] X.env))) := by rfl) :
    PE X (.Call (.Attribute o m apos) (e :: es) [] pos) (tMethSD C m sp dvs E ta t) := by
  refine ⟨fun pins s σ H Q I h => ?_⟩
  refine PySem.W.methodCall_KW (pl := pl) (thn (he.run pins s σ H _ I h) fun u s1 ⟨x, H1, I1, rx, a, dx, fs, ex, ea, l, q⟩ => ?_) ht
  subst ex
  obtain rfl : u = Value.ref a := rx
  refine getmeth_ok I1 ea c hm l ?_
  refine PySem.W.callWith_K (first := [.ref a]) (h₀ := X.base) I.ok.mod.kin hm.kp (thn (ha.run pos pins s1 σ H1 _ I1 q) fun us s2 ⟨vs, H2, I2, r, q2⟩ => ⟨I2.kIn, ?_⟩) hst hpl
  exact run_fnSDG (us := .ref a :: us) (vs := .ref a :: vs) F hr hb hd (hx σ) I2 (.cons rfl r) q2
theorem pe_methSD0 {pl : Sem Bool} (he : PE X o ta) (c : Cls X.K C) (hm : Meth X.K C m f) (F : FnG X.prog X.w X.K X.mg X.base CX k f fd ps sp) (hr : RoomG k X.A) (hb : Binds X.K fd ps ds) (hd : Vals dvs ds) (hx : ∀ σ, PassesAt CX X σ (E σ))
    (ht : eval (.Call (.Attribute o m apos) [] [] pos) X.env = (do
      let ov ← eval o X.env
      standAt apos.atName
      let (f, first) ← holding [ov] (getMethod ov m pl)
      callWith pos f first (backTo pos (starEach [] X.env)) (backToKw pos (keywordEach [] X.env))) := by rfl) :
    PE X (.Call (.Attribute o m apos) [] [] pos) (tMethSD C m sp dvs E ta tNil) := by
  refine ⟨fun pins s σ H Q I h => ?_⟩
  refine PySem.W.methodCall_KW (pl := pl) (thn (he.run pins s σ H _ I h) fun u s1 ⟨x, H1, I1, rx, a, dx, fs, ex, ea, l, q⟩ => ?_) ht
  subst ex
  obtain rfl : u = Value.ref a := rx
  refine getmeth_ok I1 ea c hm l ?_
  exact PySem.W.callWith_K0 (first := [.ref a]) I1.kIn hm.kp (run_fnSDG (us := [.ref a]) (vs := [.ref a]) F hr hb hd (hx σ) I1 (.cons rfl .nil) q)
end
section
variable {C : Ct} {W : WX} {w w' : Wd} {H H' : Hp} {σ σ' : L2.St} {Q : VK} {X : Cx} {ca : Cad} {ρ : List T} {t u : T} {v0 : Option V} {pn : List Nat}
/-! the state -/
theorem Stt.newO {p dx : Addr} {c : Nat} (h : Stt C w H ρ σ) (hp : H p = none) (hd : H dx = none) (hne : dx ≠ p) :
    After w H w (upd (upd H dx (.own p)) p (.ins (C.ca c) dx [])) ∧ Stt C w (upd (upd H dx (.own p)) p (.ins (C.ca c) dx [])) (.obj c [] [] :: ρ) (some (.ref p) :: σ) := by
  obtain ⟨F, rt, nd, out, tr, tb⟩ := h
  have ne : ∀ a, (w.I a ∨ w.B a ∨ w.R a) → a ≠ p := fun a z e => by subst e; exact noT_ne (tr a z) hp
  have ne2 : ∀ a, (w.I a ∨ w.B a ∨ w.R a) → a ≠ dx := fun a z e => by subst e; exact noT_ne (tr a z) hd
  have nf : ∀ a ∈ F, a ≠ p ∧ a ≠ dx := fun a ha => by
    obtain ⟨o', ho⟩ := RTs_some _ _ _ rt a ha
    exact ⟨fun e => (by rw [e, hp] at ho; cases ho), fun e => (by rw [e, hd] at ho; cases ho)⟩
  have up : ∀ a, a ≠ p → a ≠ dx → upd (upd H dx (.own p)) p (.ins (C.ca c) dx []) a = H a := fun a h1 h2 => by rw [upd_ne h1, upd_ne h2]
  have keep : ∀ a, (w.I a ∨ w.B a ∨ w.R a) → upd (upd H dx (.own p)) p (.ins (C.ca c) dx []) a = H a := fun a z => up a (ne a z) (ne2 a z)
  have hp1 : upd H dx (.own p) p = none := by rw [upd_ne (fun z => hne z.symm)]; exact hp
  refine ⟨⟨fun a z => z, rfl, rfl, fun a z => .inl z, keep⟩, p :: dx :: F, ⟨_, σ, [p, dx], F, rfl, ⟨p, dx, [], [], rfl, upd_same, by rw [upd_ne hne]; exact upd_same, rfl, ⟨rfl, rfl⟩, rfl⟩, ?_, rfl⟩, ?_, fun a ha => ?_, fun a z => ?_, tabs_new (tabs_new tb hd) hp1⟩
  · exact RTs_mono (w := w) (H := H) (fun a z => ⟨z, keep a (.inl z)⟩) (fun a z => ⟨z, keep a (.inr (.inl z))⟩) _ _ _ (fun a ha => up a (nf a ha).1 (nf a ha).2) rt
  · exact List.nodup_cons.mpr ⟨fun z => by
      rcases List.mem_cons.mp z with z | z
      · exact hne z.symm
      · exact (nf p z).1 rfl, List.nodup_cons.mpr ⟨fun z => (nf dx z).2 rfl, nd⟩⟩
  · rcases List.mem_cons.mp ha with rfl | ha
    · exact ⟨fun z => ne a (.inl z) rfl, fun z => ne a (.inr (.inl z)) rfl, fun z => ne a (.inr (.inr z)) rfl⟩
    · rcases List.mem_cons.mp ha with rfl | ha
      · exact ⟨fun z => ne2 a (.inl z) rfl, fun z => ne2 a (.inr (.inl z)) rfl, fun z => ne2 a (.inr (.inr z)) rfl⟩
      · exact out a ha
  · rw [keep a z]; exact tr a z
theorem tabs_wrI {T : List (Addr × Str)} {H : Hp} {p C dx : Addr} {fs : List (Str × V)} {o : HO} (t : LamX.Tabs T H) (h : H p = some (.ins C dx fs)) : LamX.Tabs T (upd H p o) := fun q hq => by
  obtain ⟨ps, h1, h2, h3⟩ := t q hq
  refine ⟨ps, ?_, h2, fun pos cv hc => ?_⟩
  · rw [upd_ne fun z => by rw [z, h] at h1; cases h1]
    exact h1
  · obtain ⟨c, e1, e2⟩ := h3 pos cv hc
    refine ⟨c, e1, ?_⟩
    rw [upd_ne fun z => by rw [z, h] at e2; unfold LamX.CodeO at e2; cases e2]
    exact e2
/-- a field more, of what stands for ever -/
theorem Stt.setF {c : Nat} {ns : List Str} {ts : List T} {p : Addr} {f : Str} {d : D} {y : V} (h : Stt C w H (.obj c ns ts :: ρ) (some (.ref p) :: σ)) (r : RD C H (w.im false) d y) (hf : f ∉ ns) :
    ∃ dx fs, H p = some (.ins (C.ca c) dx fs) ∧ fs.length = ns.length ∧ After w H w (upd H p (.ins (C.ca c) dx (putF f y fs))) ∧ Stt C w (upd H p (.ins (C.ca c) dx (putF f y fs))) (.obj c (ns ++ [f]) (ts ++ [.imm false d]) :: ρ) (some (.ref p) :: σ) := by
  obtain ⟨F, ⟨v0, r0, f1, f2, e, ⟨a, dx, fs, g, e3, g1, g2, q, rd, rfl⟩, h3, rfl⟩, nd, out, tr, tb⟩ := h
  injection e with e1 e2
  subst e1; subst e2
  cases e3
  have hput : ∀ fs : List (Str × V), f ∉ fs.map (·.1) → putF f y fs = fs ++ [(f, y)] := by
    intro fs
    induction fs with
    | nil => intro _; rfl
    | cons b fs ih =>
      intro hn
      obtain ⟨b1, b2⟩ := b
      have n1 : ¬ b1 = f := fun z => hn (by rw [z]; simp)
      show (if b1 = f then _ else _) = _
      rw [if_neg n1, ih fun z => hn (List.mem_cons_of_mem _ z)]
      rfl
  have hp := hput fs (by rw [q]; exact hf)
  have op := out p (by simp)
  have ne : ∀ b, (w.I b ∨ w.B b ∨ w.R b) → b ≠ p := fun b z e => by
    subst e
    rcases z with z | z | z
    · exact op.1 z
    · exact op.2.1 z
    · exact op.2.2 z
  rw [List.cons_append, List.cons_append] at nd
  have nd1 := List.nodup_cons.mp nd
  have nf : ∀ b, b ∈ dx :: (g ++ f2) → b ≠ p := fun b hb e => by
    subst e
    exact nd1.1 hb
  have mono : ∀ {ts : List T} {us : List (Option V)} {f' : List Addr}, (∀ b ∈ f', b ∈ dx :: (g ++ f2)) → RTs C w H ts us f' → RTs C w (upd H p (.ins (C.ca c) dx (putF f y fs))) ts us f' := fun hb r =>
    RTs_mono (w := w) (H := H) (fun b z => ⟨z, upd_ne (ne b (.inl z))⟩) (fun b z => ⟨z, upd_ne (ne b (.inr (.inl z)))⟩) _ _ _ (fun b z => upd_ne (nf b (hb b z))) r
  have q1 := mono (fun b z => List.mem_cons_of_mem _ (List.mem_append_left _ z)) rd
  have q2 := mono (ts := [T.imm false d]) (us := [some y]) (f' := []) (fun b z => absurd z (by simp)) ⟨some y, [], [], [], rfl, ⟨y, rfl, r, rfl⟩, ⟨rfl, rfl⟩, rfl⟩
  have q3 := mono (fun b z => List.mem_cons_of_mem _ (List.mem_append_right _ z)) h3
  refine ⟨dx, fs, g1, by rw [← q, List.length_map], ⟨fun _ z => z, rfl, rfl, fun _ z => .inl z, fun b z => upd_ne (ne b z)⟩, (p :: dx :: g) ++ f2, ⟨_, σ, p :: dx :: g, f2, rfl, ⟨p, dx, putF f y fs, g, rfl, upd_same, ?_, ?_, ?_, rfl⟩, q3, rfl⟩, ?_, fun b hb => out b hb, fun b z => ?_, tabs_wrI tb g1⟩
  · rw [upd_ne (nf dx List.mem_cons_self)]; exact g2
  · rw [hp, List.map_append, q]; rfl
  · have := q1.append q2
    rw [List.append_nil] at this
    have e4 : (putF f y fs).map (fun p => some p.2) = fs.map (fun p => some p.2) ++ [some y] := by rw [hp, List.map_append]; rfl
    rw [e4]
    exact this
  · rw [List.cons_append, List.cons_append]; exact nd
  · rw [upd_ne (ne b z)]; exact tr b z
theorem Stt.take1 {n : Nat} (h : Stt C w H (t :: ρ) (v0 :: σ)) : Stt C w H (t :: ρ.take n) (v0 :: σ.take n) := by
  have l := h.len
  obtain ⟨F, ⟨v0', r0, f1, f2, e, h1, h3, rfl⟩, nd, out, tr, tb⟩ := h
  injection e with e1 e2
  subst e1; subst e2
  have l2 : ρ.length = σ.length := by simpa using l
  rw [← List.take_append_drop n ρ] at h3
  obtain ⟨v1, v2, g1, g2, ev, rfl, k1, k2⟩ := h3.split
  have lk := k1.length
  have ev1 : v1 = σ.take n := by
    have : v1 = (v1 ++ v2).take v1.length := by simp
    rw [this, ← ev, ← lk, List.length_take]
    by_cases hn : n ≤ ρ.length
    · rw [Nat.min_eq_left hn]
    · rw [Nat.min_eq_right (by omega), l2, List.take_length, List.take_of_length_le (by omega)]
  subst ev1
  refine ⟨f1 ++ g1, ⟨_, _, f1, g1, rfl, h1, k1, rfl⟩, ?_, fun a ha => out a ?_, tr, tb⟩
  · rw [← List.append_assoc] at nd
    exact (List.nodup_append.mp nd).1
  · rw [← List.append_assoc]
    exact List.mem_append_left _ ha
end
end Gb

namespace Gb
open PySem PySem.Spec L2
open PyProof.Rows (envOfC)
section
variable {C : Ct} {W : WX} {w w' : Wd} {H H' : Hp} {σ σ' : L2.St} {Q : VK} {X : Cx} {ca : Cad} {ρ : List T} {t u : T} {pn : List Nat}
/-! classes, the rules -/
/-- classes of plain instances: ok tells their numbers -/
def ObF (K : PySem.W.Frag) (ca : Cad) (f : Str) (ok : Nat → Bool) : Prop := ∀ k, ok k = true → Cls K (ca k) ∧ NoAttr K (ca k) f
def fldk (f : Str) (ok : Nat → Bool) : T → DE
  | .imm b (.obj c ns ds) => fun ρ => if ok c = true then (match lookF f ns ds with
    | some d => .ok (.imm b d) ρ
    | none => .bad) else .bad
  | _ => fun _ => .bad
def dFld (de : DE) (f : Str) (ok : Nat → Bool) : DE := d1 (fldk f ok) de
/-! self.f = e -/
def dSetFld (i : Nat) (f : Str) (ok : Nat → Bool) (de : DE) : DS := fun ρ => match de ρ with
  | .ok t ρ1 => (match ρ1[i]?, t.frz with
    | some (.obj c ns ts), some (false, d) => if ok c = true ∧ ns.length < 1000 ∧ f ∉ ns then .next (ρ1.set i (.obj c (ns ++ [f]) (ts ++ [.imm false d]))) else .bad
    | _, _ => .bad)
  | .exc e ρ1 => .exc e ρ1
  | .bad => .bad
theorem ss_fld (i : Nat) {x f : Str} {e : Expr} {de : DE} {px apos pos : Pos} {ok : Nat → Bool} (he : SE X ca W e de) (ho : ObF X.K ca f ok) (hN : X.N[i]? = some x := by rfl) (hv : Vis X.env.scope x := by first | exact Or.inl rfl | exact Or.inr (Or.inl rfl) | exact Or.inr (Or.inr rfl))
    (hd : (x == ("__debug__" : Str)) = false := by decide) (hcd : (x == ("__classdict__" : Str)) = false := by decide) (hs : swapsWith e (some (.Attribute (.Name x px) f apos)) pos.line X.env = pure false := by rfl) :
    SS X ca W pn (.Assign [.Attribute (.Name x px) f apos] e pos) (dSetFld i f ok de) :=
  ⟨PS.imp (ps_fld (pe_var hN hv hd hcd) he.pe hs) fun D σ H q => by
    obtain ⟨w, ρ, S, k⟩ := q
    show tE _ _ de σ H _
    refine ⟨w, ρ, S, ?_⟩
    unfold dSetFld at k
    cases e1 : de ρ with
    | bad => rw [e1] at k; exact k
    | exc x1 ρ1 =>
      rw [e1] at k
      exact fun w1 H1 cls dx A1 S1 xx => k w1 H1 σ cls dx A1 S1 .refl xx
    | ok t ρ1 =>
      rw [e1] at k
      simp only at k
      intro w1 H1 v A1 S1
      split at k
      · rename_i c ns ts d hi ef
        split at k
        · rename_i hc
          obtain ⟨hok, hl, hf⟩ := hc
          obtain ⟨w2, A2, S2⟩ := S1.freeze ef
          have ry := S2.head_rd.false
          have S3 := S2.drop
          obtain ⟨v', hv', S4⟩ := S3.move hi
          obtain ⟨p, hp⟩ : ∃ p, v' = some (.ref p) := by
            obtain ⟨F, ⟨v0, r0, f1, f2, e, ⟨a, dx, fs, g, e3, _⟩, h3, rfl⟩, _⟩ := S4
            injection e with e1 e2
            subst e1
            exact ⟨a, e3⟩
          subst hp
          obtain ⟨dx, fs, g1, g2, A5, S5⟩ := S4.setF (f := f) (RD_mono (fun a z => ⟨.inl z, rfl⟩) _ _ ry) hf
          obtain ⟨c1, c2⟩ := ho c hok
          refine ⟨.ref p, hv', p, _, dx, fs, rfl, g1, c1, c2, by rw [g2]; exact hl, ?_⟩
          have hil : i < ρ1.length := (List.getElem?_eq_some_iff.mp hi).1
          have S6 := S5.put (i := i) (by rw [List.length_set]; exact hil)
          rw [List.set_set, set_same hv'] at S6
          exact k _ _ _ (A1.trans (A2.trans A5)) S6 .refl
        · exact k.elim
      · exact k.elim⟩
/-! defs that change what they are given -/
def finM (n : Nat) : SR → FR
  | .next ρ => .okm (.imm false .non) (ρ.take n)
  | .ret t ρ => .okm t (ρ.take n)
  | .exc e _ => .exc e
  | .brk _ => .bad
  | .cont _ => .bad
  | .bad => .bad
def mkFnM (N n : Nat) (body : DS) : FnT := fun ts => if ts.length = n then finM n (body (ts ++ List.replicate (N - n) .dead)) else .bad
variable {P : Program} {wd : World} {K : PySem.W.Frag} {mg : Str → Option Value} {base : Heap}
theorem spFM_len {n N : Nat} {body : DS} {vs : List V} {H : Hp} {Q : VK} {E : XK} (h : spF C (mkFnM N n body) vs H Q E) : vs.length = n := by
  obtain ⟨w, ts, S, k⟩ := h
  unfold mkFnM at k
  by_cases lt : ts.length = n
  · have := S.len
    rw [List.length_map] at this
    omega
  · rw [if_neg lt] at k; exact k.elim
theorem fn_bodyM {N ps : List Str} {body : DS} {vs : List V} {H : Hp} {Q : VK} {E : XK} (h : spF C (mkFnM N.length ps.length body) vs H Q E) :
    tS C (fun cls d _ H => E cls d H) (List.range ps.length) body { nx := fun _ H' => Q .non H', rt := Q } (L2.start N vs) H := by
  obtain ⟨w, ts, S, k⟩ := h
  unfold mkFnM at k
  by_cases lt : ts.length = ps.length
  case neg => rw [if_neg lt] at k; exact k.elim
  rw [if_pos lt] at k
  have l : vs.length = ps.length := by
    have := S.len
    rw [List.length_map] at this
    omega
  have tk : ∀ σ' : L2.St, Same' (List.range ps.length) (L2.start N vs) σ' → σ'.take ps.length = vs.map some := fun σ' P => by
    refine List.ext_getElem? fun j => ?_
    rw [List.getElem?_take]
    by_cases hj : j < ps.length
    · rw [if_pos hj, P j (List.mem_range.mpr hj), start_len l, List.getElem?_append_left (by simp; omega)]
    · rw [if_neg hj, List.getElem?_eq_none (by simp; omega)]
  refine ⟨w, ts ++ List.replicate (N.length - ps.length) .dead, ?_, ?_⟩
  · rw [start_len l]
    exact S.dead_append _
  · cases e : body (ts ++ List.replicate (N.length - ps.length) T.dead) with
    | next ρ' =>
      simp only [e, finM] at k
      intro w1 H1 σ1 A1 S1 P1
      have S2 := (S1.cons_imm (b := false) (d := .non) (x := .non) rfl).take1 (n := ps.length)
      rw [tk σ1 P1] at S2
      exact k w1 H1 .non A1 S2
    | ret t ρ' =>
      simp only [e, finM] at k
      intro w1 H1 σ1 v A1 S1 P1
      have S2 := S1.take1 (n := ps.length)
      rw [tk σ1 P1] at S2
      exact k w1 H1 v A1 S2
    | exc x ρ' =>
      simp only [e, finM] at k
      exact fun w1 H1 σ1 cls dx A1 S1 _ x1 => k w1 H1 cls dx A1 S1.nil x1
    | brk _ => simp only [e, finM] at k; exact k.elim
    | cont _ => simp only [e, finM] at k; exact k.elim
    | bad => simp only [e, finM] at k; exact k.elim
theorem fn_okM {ca : Cad} {x qual : Str} {st : Stmt} {f : Addr} {fd : FuncData} {N ps : List Str} {k : Nat} {body : DS} (F : Fun K x qual st f fd) (S : FnScope N ps (defScope st))
    (hb : ∀ (cdv : Value) (A : Around) (outer : List Env) (s : Shared) (H : Hp) (E : XK), RoomG k (A.deeper (envOfC qual (defScope st) s.heap.objs.size f cdv)) →
      SB (cxOf (L2.CX P wd) P wd K mg base N qual (defScope st) f cdv A outer s H E) ca (fun cls d _ H => E cls d H) (List.range ps.length) (defBody st) body) : FnG P wd K mg base (L2.CX P wd) (k + 1) f fd ps (spF ⟨K, ca⟩ (mkFnM N.length ps.length body)) :=
  by
    obtain ⟨oc, od, kV, doc, pm, an, cdv, ct, osl, rfl, lk, hcd⟩ := F.ex
    exact fn_ofG lk hcd S (fun vs H Q E h => spFM_len h) fun A outer s H vs Q E hr h => ⟨_, (hb cdv A outer s H E hr).pss, fn_bodyM h⟩
/-! C(..) -/
structure MkC (P : Program) (wd : World) (K : PySem.W.Frag) (mg : Str → Option Value) (base : Heap) (ca : Cad) (k : Nat) (x : Str) (c : Nat) (ds : List D) (Fn : FnT) : Prop where
  ex : ∃ (f : Addr) (fd : FuncData) (ps : List Str) (dvs : List V) (us : List Value), FnG P wd K mg base (L2.CX P wd) k f fd ps (spF ⟨K, ca⟩ Fn) ∧ mg x = some (.ref (ca c)) ∧ Mk K (ca c) f ∧ Binds K fd ps us ∧ Vals dvs us ∧
    ∀ (H : Hp) (A : Addr → Prop), RDs ⟨K, ca⟩ H A ds dvs
def afterMake (ρ : List T) : FR → ER T
  | .okm (.imm _ .non) (o :: _) => .ok o ρ
  | .exc e => .exc e ρ
  | .excm e _ => .exc e ρ
  | _ => .bad
def dMake (Fn : FnT) (c : Nat) (ds : List D) (da : DA) : DE := fun ρ => (da ρ).bind fun ts ρ1 => afterMake ρ1 (Fn (.obj c [] [] :: (ts ++ ds.map (T.imm false))))
theorem makeT {Fn : FnT} {c : Nat} {ds : List D} {dvs : List V} {vs : List V} {ts : List T} {Q : VK} (l : vs.length = ts.length) (S : Stt C w H (ts ++ ρ) (vs.map some ++ σ)) (hd : ∀ (H : Hp) (A : Addr → Prop), RDs C H A ds dvs)
    (k : kE C W w H σ Q (afterMake ρ (Fn (.obj c [] [] :: (ts ++ ds.map (T.imm false)))))) (x dx : Addr) (hx : H x = none) (hdx : H dx = none) (hne : dx ≠ x) :
    spF C Fn (.ref x :: (vs ++ dvs)) (upd (upd H dx (.own x)) x (.ins (C.ca c) dx [])) (fun v H2 => v = .non ∧ Q (.ref x) H2) (fun cls dx H' => W cls dx σ H') := by
  obtain ⟨A0, S0⟩ := S.newO (c := c) hx hdx hne
  have S0' : Stt C w _ ((.obj c [] [] :: ts) ++ ρ) ((some (.ref x) :: vs.map some) ++ σ) := S0
  obtain ⟨wt, eI, eB, S1, back⟩ := S0'.pushT (by simpa using l)
  have S1' := S1.append_imms (hd _ _)
  refine ⟨wt, .obj c [] [] :: (ts ++ ds.map (T.imm false)), by simpa [List.map_append] using S1', ?_⟩
  cases e : Fn (.obj c [] [] :: (ts ++ ds.map (T.imm false))) with
  | bad => rw [e] at k; exact k
  | ok t => rw [e] at k; exact k.elim
  | okm t outs =>
    rw [e] at k
    unfold afterMake at k
    split at k
    · rename_i b o os eq
      cases eq
      intro w2 H2 v A2 S2
      obtain ⟨y, ey, ry⟩ := S2.head_imm
      cases ey
      have ev : v = .non := ry
      refine ⟨ev, ?_⟩
      obtain ⟨w3, e3, A3, S3⟩ := back w2 H2 [o] [some (.ref x)] A2 S2.drop.head
      exact k w3 H2 _ (A0.trans A3) S3
    · rename_i eq; cases eq
    · rename_i eq; cases eq
    · exact k.elim
  | exc z =>
    rw [e] at k
    intro w2 H2 cls dx' A2 S2 x2
    obtain ⟨w3, e3, A3, S3⟩ := back _ _ _ _ A2 S2
    exact k w3 H2 cls dx' (A0.trans A3) S3 (x2.I e3)
  | excm z outs =>
    rw [e] at k
    intro w2 H2 cls dx' A2 S2 x2
    obtain ⟨w3, e3, A3, S3⟩ := back _ _ _ _ A2 S2.nil
    exact k w3 H2 cls dx' (A0.trans A3) S3 (x2.I e3)
theorem se_make {k : Nat} {x : Str} {c : Nat} {ds : List D} {Fn : FnT} {e : Expr} {es : List Expr} {da : DA} {p pos : Pos} (mk : MkC X.prog X.w X.K X.mg X.base ca k x c ds Fn) (hr : RoomG (k + 1) X.A) (tk : Takes X W) (ha : SA X ca W (e :: es) da) (hg : Gl X x := by rfl)
    (hdb : (x == ("__debug__" : Str)) = false := by decide) (he : starEach (e :: es) X.env = (false, eval e X.env) :: starEach es X.env := by rfl) (hpl : (backTo pos (starEach es X.env)).any (·.1) = false := by rfl) :
    SE X ca W (.Call (.Name x p) (e :: es) [] pos) (dMake Fn c ds da) := by
  obtain ⟨f, fd, ps, dvs, us, F, hm, M, hb, hd, rd⟩ := mk.ex
  exact ⟨PE.imp (pe_makeS M F hr hg hm hb hd (fun σ => passAt tk σ) ha.pa hdb he hpl) fun σ H Q q => exA q fun w H ts ρ vs l S kk => makeT (C := ⟨X.K, ca⟩) l S rd kk⟩
/-! o.m(..) of a thing that stands -/
structure MeC (P : Program) (wd : World) (K : PySem.W.Frag) (mg : Str → Option Value) (base : Heap) (ca : Cad) (k : Nat) (m : Str) (c : Nat) (ds : List D) (Fn : FnT) : Prop where
  ex : ∃ (f : Addr) (fd : FuncData) (ps : List Str) (dvs : List V) (us : List Value), FnG P wd K mg base (L2.CX P wd) k f fd ps (spF ⟨K, ca⟩ Fn) ∧ Cls K (ca c) ∧ Meth K (ca c) m f ∧ Binds K fd ps us ∧ Vals dvs us ∧
    ∀ (H : Hp) (A : Addr → Prop), RDs ⟨K, ca⟩ H A ds dvs
theorem lookup_none {m : Str} : ∀ {fs : List (Str × V)}, m ∉ fs.map (·.1) → fs.lookup m = none
  | [], _ => rfl
  | (n, y) :: fs, h => by
    have h1 : ¬ m = n := fun z => h (by rw [z]; simp)
    rw [List.lookup_cons, beq_false_of_ne h1]
    exact lookup_none fun z => h (List.mem_cons_of_mem _ z)
def methk (m : Str) (c : Nat) (Fn : FnT) (ds : List D) (da : DA) : T → DE
  | .imm b (.obj c' ns us) => fun ρ => if c' = c ∧ m ∉ ns then (da ρ).bind fun ts ρ1 => afterCall ρ1 (Fn (.imm b (.obj c' ns us) :: (ts ++ ds.map (T.imm false)))) else .bad
  | _ => fun _ => .bad
def dMeth (m : Str) (c : Nat) (Fn : FnT) (ds : List D) (de : DE) (da : DA) : DE := d1 (methk m c Fn ds da) de
def methk0 (m : Str) (c : Nat) (Fn : FnT) (ds : List D) : T → DE
  | .imm b (.obj c' ns us) => fun ρ => if c' = c ∧ m ∉ ns then afterCall ρ (Fn (.imm b (.obj c' ns us) :: ds.map (T.imm false))) else .bad
  | _ => fun _ => .bad
def dMeth0 (m : Str) (c : Nat) (Fn : FnT) (ds : List D) (de : DE) : DE := d1 (methk0 m c Fn ds) de
/-! rules for the walk -/
theorem v_Fld {de : DE} {f : Str} {ok : Nat → Bool} : dFld de f ok ρ = bnd (de ρ) (fldk f ok) := rfl
theorem v_fldk {f : Str} {ok : Nat → Bool} {b : Bool} {c : Nat} {ns : List Str} {ds : List D} {d : D} (h : ok c = true) (e : lookF f ns ds = some d) : fldk f ok (.imm b (.obj c ns ds)) ρ = .ok (.imm b d) ρ := by
  unfold fldk
  simp only [h, e, if_true]
def makek (Fn : FnT) (c : Nat) (ds : List D) : List T → List T → ER T := fun ts ρ => afterMake ρ (Fn (.obj c [] [] :: (ts ++ ds.map (T.imm false))))
theorem v_Make {Fn : FnT} {c : Nat} {ds : List D} {da : DA} : dMake Fn c ds da ρ = bnd (da ρ) (makek Fn c ds) := rfl
theorem v_makek {Fn : FnT} {c : Nat} {ds : List D} {ts : List T} : makek Fn c ds ts ρ = afterMake ρ (Fn (.obj c [] [] :: (ts ++ ds.map (T.imm false)))) := rfl
theorem v_afterMake {b : Bool} {o : T} {os : List T} : afterMake ρ (.okm (.imm b .non) (o :: os)) = .ok o ρ := rfl
theorem v_afterMakeX {e : Ex} : afterMake ρ (.exc e) = .exc e ρ := rfl
theorem v_Meth {m : Str} {c : Nat} {Fn : FnT} {ds : List D} {de : DE} {da : DA} : dMeth m c Fn ds de da ρ = bnd (de ρ) (methk m c Fn ds da) := rfl
def callo (o : T) (Fn : FnT) (ds : List D) : List T → List T → ER T := fun ts ρ => afterCall ρ (Fn (o :: (ts ++ ds.map (T.imm false))))
theorem v_methk {m : Str} {c : Nat} {Fn : FnT} {ds : List D} {da : DA} {b : Bool} {ns : List Str} {us : List D} (h : m ∉ ns) : methk m c Fn ds da (.imm b (.obj c ns us)) ρ = bnd (da ρ) (callo (.imm b (.obj c ns us)) Fn ds) := if_pos ⟨rfl, h⟩
theorem v_callo {o : T} {Fn : FnT} {ds : List D} {ts : List T} : callo o Fn ds ts ρ = afterCall ρ (Fn (o :: (ts ++ ds.map (T.imm false)))) := rfl
theorem v_Meth0 {m : Str} {c : Nat} {Fn : FnT} {ds : List D} {de : DE} : dMeth0 m c Fn ds de ρ = bnd (de ρ) (methk0 m c Fn ds) := rfl
theorem v_methk0 {m : Str} {c : Nat} {Fn : FnT} {ds : List D} {b : Bool} {ns : List Str} {us : List D} (h : m ∉ ns) : methk0 m c Fn ds (.imm b (.obj c ns us)) ρ = afterCall ρ (Fn (.imm b (.obj c ns us) :: ds.map (T.imm false))) := if_pos ⟨rfl, h⟩
end
end Gb

namespace Gb
open PySem PySem.Spec L2
open PyProof.Rows (envOfC)
section
variable {P : Program} {wd : World} {K : PySem.W.Frag} {mg : Str → Option Value} {base : Heap} {ca : Cad} {x qual : Str} {st : Stmt} {f : Addr} {fd : FuncData} {N ps : List Str} {dvs dv : List V} {k : Nat} {body : DS} {Fn : FnT} {ds : List D} {c : Nat} {m : Str}
theorem MeC.mk0 (F : Fun K x qual st f fd) (ok : FnG P wd K mg base (L2.CX P wd) k f fd ps (spF ⟨K, ca⟩ Fn)) (cl : Cls K (ca c)) (h1 : PySem.W.findIn K (.ref (ca c)) m = some (some (.ref f))) (h2 : PySem.W.isFn K (.ref f) = true) (b : Binds K fd ps []) : MeC P wd K mg base ca k m c [] Fn :=
  ⟨⟨f, fd, ps, [], [], ok, cl, ⟨h1, h2, F.kp⟩, b, .nil, fun _ _ => rfl⟩⟩
theorem MkC.mk0 (F : Fun K x qual st f fd) (ok : FnG P wd K mg base (L2.CX P wd) k f fd ps (spF ⟨K, ca⟩ Fn)) (hm : mg m = some (.ref (ca c))) (M : Mk K (ca c) f) (b : Binds K fd ps []) : MkC P wd K mg base ca k m c [] Fn :=
  ⟨⟨f, fd, ps, [], [], ok, hm, M, b, .nil, fun _ _ => rfl⟩⟩
end
end Gb

namespace Gb
open PySem PySem.Spec L2
section
variable {C : Ct} {W : WX} {w w' : Wd} {H H' : Hp} {σ σ' : L2.St} {Q : VK} {X : Cx} {ca : Cad} {ρ : List T} {t u : T} {pn : List Nat}
/-! dicts by whole numbers or texts: d[k], k in d, dict(pairs) -/
def keyD : D → Option Key
  | .int i => some (.inl i)
  | .str s => some (.inr s)
  | _ => none
def getK (k : Key) : List Key → List D → Option D
  | n :: ns, d :: ds => if n = k then some d else getK k ns ds
  | _, _ => none
def fDGet : T → T → DE
  | .imm b (.dic ks ds), .imm _ e => fun ρ => (match keyD e with
    | some k => (match getK k ks ds with
      | some d => .ok (.imm b d) ρ
      | none => .bad)
    | none => .bad)
  | _, _ => fun _ => .bad
/-! dict(pairs) -/
def pairD : D → Option (Key × D)
  | .tup ds => (match ds with
    | [e, d] => (keyD e).map fun k => (k, d)
    | _ => none)
  | _ => none
def pairsD : List D → Option (List Key × List D)
  | [] => some ([], [])
  | p :: r => (match pairD p, pairsD r with
    | some (k, d), some (ks, ds) => some (k :: ks, d :: ds)
    | _, _ => none)
def fDictP : List T → List T → ER T
  | [.imm false (.lst prs)], ρ => (match pairsD prs with
    | some (ks, ds) => if ks.Nodup then .ok (.dicI ks ds) ρ else .bad
    | none => .bad)
  | _, _ => .bad
theorem v_fDGet {b c : Bool} {ks : List Key} {ds : List D} {e d : D} {k : Key} (h : keyD e = some k) (g : getK k ks ds = some d) : fDGet (.imm b (.dic ks ds)) (.imm c e) ρ = .ok (.imm b d) ρ := by
  unfold fDGet
  simp only [h, g]
theorem v_fDictP {prs ds : List D} {ks : List Key} (h : pairsD prs = some (ks, ds)) (hn : ks.Nodup) : fDictP [.imm false (.lst prs)] ρ = .ok (.dicI ks ds) ρ := by
  unfold fDictP
  simp only [h, if_pos hn]
end
end Gb

namespace Gb.SetT
open PySem PySem.Spec PyProof.Rows
/-! set(list of texts) -/
section
variable {prog : Program} {w : World} {A : Around} {R : Result → Shared → Prop} {I : Addr} {fp wr : List Addr} {G : Array GenState → Array GenState → Prop} {n : Nat} {P : Nat → Value → Prop} {St : Nat → Shared → Prop}

end
section
variable {prog : Program} {w : World} {A : Around} {E : Value → Shared → Prop} {s : Shared}
end
end Gb.SetT

namespace Gb
open PySem PySem.Spec PyProof.Rows L2
section
variable {C : Ct} {W : WX} {w w' : Wd} {H H' : Hp} {σ σ' : L2.St} {Q : VK} {X : Cx} {ca : Cad} {ρ : List T} {t u : T} {pn : List Nat}
/-! len(set(xs)), xs a list of texts -/
/-- how many unlike ones -/
def unlikeN (xs : List Str) : Nat := (xs.foldl step_dedup []).length
def strsD : List D → Option (List Str)
  | [] => some []
  | .str s :: r => (strsD r).map (s :: ·)
  | _ => none
theorem strsD_rd {A : Addr → Prop} : ∀ {ds : List D} {vs : List V} {xs : List Str}, strsD ds = some xs → RDs C H A ds vs → vs = xs.map V.str
  | [], vs, xs, h, r => by
    cases h
    exact r
  | d :: ds, vs, xs, h, r => by
    cases d with
    | str s =>
      obtain ⟨v, r', rfl, h1, h2⟩ := r
      have h' : (strsD ds).map (s :: ·) = some xs := h
      cases e : strsD ds with
      | none => rw [e] at h'; cases h'
      | some ys =>
        rw [e] at h'
        cases h'
        have hv : v = .str s := h1
        rw [hv, strsD_rd e h2, List.map_cons]
    | _ => cases h
def lenSk : T → DE
  | .imm _ (.lst ds) => fun ρ => (match strsD ds with
    | some xs => if xs.length ≤ 4000 then .ok (.imm false (.int (unlikeN xs : Nat))) ρ else .bad
    | none => .bad)
  | _ => fun _ => .bad
def dLenSet (de : DE) : DE := d1 lenSk de
theorem v_LenSet {de : DE} : dLenSet de ρ = bnd (de ρ) lenSk := rfl
theorem v_lenSk {b : Bool} {ds : List D} {xs : List Str} (h : strsD ds = some xs) (l : xs.length ≤ 4000) : lenSk (.imm b (.lst ds)) ρ = .ok (.imm false (.int (unlikeN xs : Nat))) ρ := by
  unfold lenSk
  simp only [h, if_pos l]
end
end Gb

namespace Gb
open PySem PySem.Spec L2
section
variable {C : Ct} {W : WX} {pn ch : List Nat} {w w' : Wd} {H H' : Hp} {σ σ' : L2.St} {En : Ends} {X : Cx} {ca : Cad} {ρ : List T} {t u : T} {v x : Option V}
/-! for i in reversed(range(n)) -/
def revRgItems : T → List T → ER (Bool × List D)
  | .imm _ (.int n), ρ => if -4611686018427387904 ≤ n ∧ n ≤ 16777216 then .ok (false, rangeDs (0 + (((n - 0).toNat : Nat) : Int) - 1) (-1) (n - 0).toNat) ρ else .bad
  | _, _ => .bad
def diRevRg (de : DE) : DI := fun ρ => (de ρ).bind revRgItems
variable {n : Int} {b : Bool} {de : DE}
theorem v_iRevRg : diRevRg de ρ = bnd (de ρ) revRgItems := rfl
theorem v_revRg (h1 : 0 ≤ n) (h2 : n ≤ 16777216) : revRgItems (.imm b (.int n)) ρ = .ok (false, rangeDs (n - 1) (-1) n.toNat) ρ := by
  show (if _ then _ else _) = _
  rw [if_pos ⟨by omega, h2⟩]
  have e : 0 + (((n - 0).toNat : Nat) : Int) - 1 = n - 1 := by omega
  have e2 : (n - 0).toNat = n.toNat := by omega
  rw [e, e2]
end
end Gb

namespace Gb
open PySem PySem.Spec L2
section
variable {ρ : List T} {n : Nat} {b : Bool} {ds : List D} {c : Nat} {ns : List Str} {ts : List T}
/-! an own thing of a class, frozen by a reading -/
def varo (n c : Nat) (ns : List Str) (ρ : List T) : Option (Bool × List D) → ER T
  | some (b, ds) => .ok (.imm b (.obj c ns ds)) (ρ.set n (.imm b (.obj c ns ds)))
  | none => .bad
theorem v_vark_obj : vark n ρ (some (.obj c ns ts)) = varo n c ns ρ (frzs ts) := by
  unfold vark varo
  simp only [T.frz]
  cases frzs ts <;> rfl
theorem v_varo : varo n c ns ρ (some (b, ds)) = .ok (.imm b (.obj c ns ds)) (ρ.set n (.imm b (.obj c ns ds))) := rfl
def frok (c : Nat) (ns : List Str) (ρ : List T) : Option (Bool × List D) → ER T
  | some (b, ds) => .ok (.imm b (.obj c ns ds)) ρ
  | none => .bad
theorem v_frk_obj : frk (.obj c ns ts) ρ = frok c ns ρ (frzs ts) := by
  unfold frk frok
  simp only [T.frz]
  cases frzs ts <;> rfl
theorem v_frok : frok c ns ρ (some (b, ds)) = .ok (.imm b (.obj c ns ds)) ρ := rfl
end
end Gb

namespace Gb
open PySem PySem.Spec L2 PyProof.Rows
/-! max(a list of ints, default=a written int) -/
def maxDef (z : Int) : List Int → Int
  | [] => z
  | n :: ns => ns.foldl max n
section
variable {X : Cx}
end
def maxdk (z : Int) (ρ : List T) : Option (List Int) → ER T
  | some ns => .ok (.imm false (.int (maxDef z ns))) ρ
  | none => .bad
def fMaxDef (z : Int) : T → DE
  | .imm _ (.lst ds), ρ => maxdk z ρ (D.ints ds)
  | _, _ => .bad
def dMaxDef (z : Int) (de : DE) : DE := d1 (fMaxDef z) de
section
variable {X : Cx} {ca : Cad} {W : WX}
end
section
variable {ρ : List T} {b : Bool} {ds : List D} {z : Int}
theorem v_dMaxDef {da : DE} : dMaxDef z da ρ = bnd (da ρ) (fMaxDef z) := rfl
theorem v_fMaxDef : fMaxDef z (.imm b (.lst ds)) ρ = maxdk z ρ (D.ints ds) := rfl
theorem v_maxdk {ns : List Int} : maxdk z ρ (some ns) = .ok (.imm false (.int (maxDef z ns))) ρ := rfl
end
end Gb

namespace Gb
open PySem PySem.Spec L2
/-! own things of a class, changed: o.m(..), self.f, self.f = .., self.f.append(..) -/
def ixF (f : Str) : List Str → Option Nat
  | [] => none
  | n :: ns => if n = f then some 0 else (ixF f ns).map (· + 1)
theorem ixF_spec {f : Str} : ∀ {fs : List (Str × V)} {ns : List Str} {k : Nat}, fs.map (·.1) = ns → ixF f ns = some k → ∃ y, fs[k]? = some (f, y) ∧ fs.lookup f = some y ∧ ∀ y', putF f y' fs = fs.set k (f, y')
  | [], _, _, e, h => by subst e; cases h
  | (g, x) :: fs, ns, k, e, h => by
    subst e
    unfold ixF at h
    rw [List.map_cons] at h
    simp only at h
    by_cases hg : g = f
    · subst hg
      rw [if_pos rfl] at h
      cases h
      exact ⟨x, rfl, by rw [List.lookup_cons, beq_self_eq_true], fun y' => by unfold putF; rw [if_pos rfl]; rfl⟩
    · rw [if_neg hg] at h
      cases h2 : ixF f (fs.map (·.1)) with
      | none => rw [h2] at h; cases h
      | some j =>
        rw [h2] at h
        cases h
        obtain ⟨y, h3, h4, h5⟩ := ixF_spec rfl h2
        exact ⟨y, h3, by rw [List.lookup_cons, beq_false_of_ne fun z => hg z.symm]; exact h4, fun y' => by unfold putF; rw [if_neg hg, h5 y']; rfl⟩
section
variable {C : Ct} {W : WX} {pn : List Nat} {w w' : Wd} {H H' : Hp} {σ σ' : L2.St} {En : Ends} {X : Cx} {ca : Cad} {ρ : List T} {t u : T} {v x : Option V} {c k : Nat} {ns : List Str} {ts : List T} {p : Addr}
theorem Stt.head_obj (h : Stt C w H (.obj c ns ts :: ρ) (v :: σ)) : ∃ p dx fs, v = some (.ref p) ∧ H p = some (.ins (C.ca c) dx fs) ∧ fs.map (·.1) = ns ∧ fs.length = ts.length := by
  obtain ⟨F, ⟨v0, r0, f1, f4, e0, ⟨a, dx, fs, f, e3, g, g2, q, rd, rfl⟩, h4, rfl⟩, nd, out, tr, tb⟩ := h
  injection e0 with e1 e2
  subst e1
  exact ⟨a, dx, fs, e3, g, q, by rw [rd.length, List.length_map]⟩
/-- a field taken out -/
theorem Stt.unplugF (h : Stt C w H (.obj c ns ts :: ρ) (some (.ref p) :: σ)) (e : ts[k]? = some t) :
    ∃ dx fs y, H p = some (.ins (C.ca c) dx fs) ∧ fs.map (·.1) = ns ∧ (fs.map fun q => some q.2)[k]? = some y ∧ Stt C w H (.obj c ns (ts.set k .dead) :: t :: ρ) (some (.ref p) :: y :: σ) := by
  obtain ⟨F, ⟨v0, r0, f1, f4, e0, ⟨a, dx, fs, f, e3, g, g0, q, rd, rfl⟩, h4, rfl⟩, nd, out, tr, tb⟩ := h
  injection e0 with e1 e2
  subst e1; subst e2
  cases e3
  obtain ⟨y, g1, fp, g2, hv, rt, rfl, put⟩ := rd.at e
  have k1 := put .dead y [] rfl
  rw [set_same hv, List.append_nil] at k1
  have pm : ((p :: dx :: (g1 ++ g2)) ++ (fp ++ f4)).Perm ((p :: dx :: (g1 ++ fp ++ g2)) ++ f4) := by
    simp only [List.cons_append, List.append_assoc]
    refine List.Perm.cons p (List.Perm.cons dx (List.Perm.append_left g1 ?_))
    exact List.perm_append_comm_assoc g2 fp f4
  exact ⟨dx, fs, y, g, q, hv, (p :: dx :: (g1 ++ g2)) ++ (fp ++ f4), ⟨_, _, p :: dx :: (g1 ++ g2), fp ++ f4, rfl, ⟨p, dx, fs, g1 ++ g2, rfl, g, g0, q, k1, rfl⟩, ⟨y, σ, fp, f4, rfl, rt, h4, rfl⟩, rfl⟩, pm.nodup_iff.mpr nd, fun b hb => out b (pm.mem_iff.mp hb), tr, tb⟩
/-- and put back -/
theorem Stt.plugF {dx : Addr} {fs : List (Str × V)} {y : Option V} (h : Stt C w H (.obj c ns ts :: t :: ρ) (some (.ref p) :: y :: σ)) (e : ts[k]? = some .dead) (hp : H p = some (.ins (C.ca c) dx fs)) (hy : (fs.map fun q => some q.2)[k]? = some y) :
    Stt C w H (.obj c ns (ts.set k t) :: ρ) (some (.ref p) :: σ) := by
  obtain ⟨F, ⟨v0, r, f1, f2, e0, ⟨a, dx', fs', f, e3, g, g0, q, rd, rfl⟩, ⟨v1, r1, fp, f4, e', h3, h4, rfl⟩, rfl⟩, nd, out, tr, tb⟩ := h
  injection e0 with e1 e2
  subst e1; subst e2
  injection e' with e1 e2
  subst e1; subst e2
  cases e3
  rw [hp] at g
  cases g
  obtain ⟨v', g1, fd, g2, hv, hd, rfl, put⟩ := rd.at e
  have hd' : fd = [] := hd
  subst hd'
  have k1 := put t y fp h3
  rw [set_same hy] at k1
  have pm : ((p :: dx :: (g1 ++ fp ++ g2)) ++ f4).Perm ((p :: dx :: (g1 ++ [] ++ g2)) ++ (fp ++ f4)) := by
    simp only [List.cons_append, List.append_assoc, List.nil_append]
    refine List.Perm.cons p (List.Perm.cons dx (List.Perm.append_left g1 ?_))
    exact List.perm_append_comm_assoc fp g2 f4
  exact ⟨(p :: dx :: (g1 ++ fp ++ g2)) ++ f4, ⟨_, _, p :: dx :: (g1 ++ fp ++ g2), f4, rfl, ⟨p, dx, fs, g1 ++ fp ++ g2, rfl, hp, g0, q, k1, rfl⟩, h4, rfl⟩, pm.nodup_iff.mpr nd, fun b hb => out b (pm.mem_iff.mp hb), tr, tb⟩
/-- a field of which nothing is known is written -/
theorem Stt.wrF {dx : Addr} {fs : List (Str × V)} {f : Str} {y : V} (h : Stt C w H (.obj c ns ts :: ρ) (some (.ref p) :: σ)) (e : ts[k]? = some .dead) (hp : H p = some (.ins (C.ca c) dx fs)) (hk : ixF f ns = some k) :
    After w H w (upd H p (.ins (C.ca c) dx (putF f y fs))) ∧ Stt C w (upd H p (.ins (C.ca c) dx (putF f y fs))) (.obj c ns ts :: ρ) (some (.ref p) :: σ) ∧ ((putF f y fs).map fun q => some q.2)[k]? = some (some y) := by
  obtain ⟨F, ⟨v0, r0, f1, f2, e0, ⟨a, dx', fs', g, e3, g1, g2, q, rd, rfl⟩, h3, rfl⟩, nd, out, tr, tb⟩ := h
  injection e0 with e1 e2
  subst e1; subst e2
  cases e3
  rw [hp] at g1
  cases g1
  obtain ⟨y0, hy0, hl, hput⟩ := ixF_spec q hk
  have hput := hput y
  have op := out p (by simp)
  have ne : ∀ b, (w.I b ∨ w.B b ∨ w.R b) → b ≠ p := fun b z e => by
    subst e
    rcases z with z | z | z
    · exact op.1 z
    · exact op.2.1 z
    · exact op.2.2 z
  have nd' := nd
  rw [List.cons_append, List.cons_append] at nd'
  have nd1 := List.nodup_cons.mp nd'
  have nf : ∀ b, b ∈ dx :: (g ++ f2) → b ≠ p := fun b hb e => by
    subst e
    exact nd1.1 hb
  have mono : ∀ {ts : List T} {us : List (Option V)} {f' : List Addr}, (∀ b ∈ f', b ∈ dx :: (g ++ f2)) → RTs C w H ts us f' → RTs C w (upd H p (.ins (C.ca c) dx (putF f y fs))) ts us f' := fun hb r =>
    RTs_mono (w := w) (H := H) (fun b z => ⟨z, upd_ne (ne b (.inl z))⟩) (fun b z => ⟨z, upd_ne (ne b (.inr (.inl z)))⟩) _ _ _ (fun b z => upd_ne (nf b (hb b z))) r
  have q1 := mono (fun b z => List.mem_cons_of_mem _ (List.mem_append_left _ z)) rd
  have q3 := mono (fun b z => List.mem_cons_of_mem _ (List.mem_append_right _ z)) h3
  -- the field's own place
  obtain ⟨v', a1, fd, a2, hv, hd, hg, put⟩ := q1.at e
  have hd' : fd = [] := hd
  subst hd'
  have k1 := put .dead (some y) [] rfl
  rw [set_same e] at k1
  have hks : k < fs.length := (List.getElem?_eq_some_iff.mp hy0).1
  have e4 : ((putF f y fs).map fun q => some q.2) = (fs.map fun q => some q.2).set k (some y) := by rw [hput, List.map_set]
  have e5 : (putF f y fs).map (·.1) = ns := by
    rw [hput, List.map_set, q]
    refine set_same ?_
    rw [← q, List.getElem?_map, hy0]; rfl
  refine ⟨⟨fun _ z => z, rfl, rfl, fun _ z => .inl z, fun b z => upd_ne (ne b z)⟩, ⟨(p :: dx :: g) ++ f2, ⟨_, σ, p :: dx :: g, f2, rfl, ⟨p, dx, putF f y fs, g, rfl, upd_same, ?_, e5, ?_, rfl⟩, q3, rfl⟩, nd, fun b hb => out b hb, fun b z => ?_, tabs_wrI tb hp⟩, ?_⟩
  · rw [upd_ne (nf dx List.mem_cons_self)]; exact g2
  · rw [e4, hg]; exact k1
  · rw [upd_ne (ne b z)]; exact tr b z
  · rw [e4, List.getElem?_set_self (by simpa using hks)]
theorem Stt.dupI {b : Bool} {d : D} (h : Stt C w H (.imm b d :: ρ) (v :: σ)) : Stt C w H (.imm b d :: .imm b d :: ρ) (v :: v :: σ) := by
  obtain ⟨y, rfl, r⟩ := h.head_imm
  exact h.cons_imm r
/-- self.f -/
def fldo (i : Nat) (f : Str) (ok : Nat → Bool) (ρ : List T) : Option T → ER T
  | some (.obj c ns ts) => if ok c = true then (match ixF f ns with
    | some k => (match (ts[k]?).bind T.frz with
      | some (b, d) => .ok (.imm b d) (ρ.set i (.obj c ns (ts.set k (.imm b d))))
      | none => .bad)
    | none => .bad) else .bad
  | _ => .bad
def dFldO (i : Nat) (f : Str) (ok : Nat → Bool) : DE := fun ρ => fldo i f ok ρ ρ[i]?
/-- a field of the thing in slot i: taken out, and put back otherwise -/
theorem Stt.field {i : Nat} (S : Stt C w H ρ σ) (hi : ρ[i]? = some (.obj c ns ts)) (hk : ts[k]? = some t) :
    ∃ p dx fs y, σ[i]? = some (some (.ref p)) ∧ H p = some (.ins (C.ca c) dx fs) ∧ fs.map (·.1) = ns ∧ (fs.map fun q => some q.2)[k]? = some y ∧ Stt C w H (.obj c ns (ts.set k .dead) :: t :: ρ.set i .dead) (some (.ref p) :: y :: σ) ∧
    ∀ (w' : Wd) (H' : Hp) (t' : T), H' p = some (.ins (C.ca c) dx fs) → Stt C w' H' (.obj c ns (ts.set k .dead) :: t' :: ρ.set i .dead) (some (.ref p) :: y :: σ) → Stt C w' H' (ρ.set i (.obj c ns (ts.set k t'))) σ := by
  obtain ⟨v, hv, S1⟩ := S.move hi
  obtain ⟨p, dx0, fs0, rfl, _, _, _⟩ := S1.head_obj
  obtain ⟨dx, fs, y, h1, h2, h3, S2⟩ := S1.unplugF hk
  have hkl := (List.getElem?_eq_some_iff.mp hk).1
  refine ⟨p, dx, fs, y, hv, h1, h2, h3, S2, fun w' H' t' hp S' => ?_⟩
  have S4 := S'.plugF (k := k) (by rw [List.getElem?_set_self hkl]) hp h3
  rw [List.set_set] at S4
  exact S4.backO hv (List.getElem?_eq_some_iff.mp hi).1
theorem se_fldO (i : Nat) {xn f : Str} {px pos : Pos} {ok : Nat → Bool} (ho : ObF X.K ca f ok) (hN : X.N[i]? = some xn := by rfl) (hv : Vis X.env.scope xn := by first | exact Or.inl rfl | exact Or.inr (Or.inl rfl) | exact Or.inr (Or.inr rfl))
    (hd : (xn == ("__debug__" : Str)) = false := by decide) (hcd : (xn == ("__classdict__" : Str)) = false := by decide) (hb : attributeBase (.Name xn px) f X.env (eval (.Name xn px) X.env) = eval (.Name xn px) X.env := by rfl) : SE X ca W (.Attribute (.Name xn px) f pos) (dFldO i f ok) :=
  ⟨PE.imp (pe_fld (pe_var hN hv hd hcd) hb) fun σ H Q q => by
    obtain ⟨w, ρ, S, k⟩ := q
    unfold dFldO fldo at k
    split at k
    · rename_i c ns ts e0
      split at k
      · rename_i hk
        split at k
        · rename_i j hj
          split at k
          · rename_i b d hf
            cases ht : ts[j]? with
            | none => rw [ht] at hf; cases hf
            | some t =>
              rw [ht] at hf
              simp only [Option.bind_some] at hf
              obtain ⟨p, dx, fs, y, h1, h2, h3, h4, S1, back⟩ := S.field e0 ht
              obtain ⟨y0, g1, g2, _⟩ := ixF_spec h3 hj
              rw [List.getElem?_map, g1] at h4
              cases h4
              obtain ⟨w2, A2, S2⟩ := S1.swap.freeze hf
              have S3 := S2.dupI
              obtain ⟨wt, eI, eB, S4, bk⟩ := S3.push
              obtain ⟨c1, c2⟩ := ho c hk
              refine ⟨_, h1, p, _, dx, fs, y0, rfl, h2, c1, c2, g2, ?_⟩
              have S5 := back _ _ (.imm b d) h2 S4.swap
              obtain ⟨w3, e3, A3, S6⟩ := bk _ _ _ _ .refl S5
              exact k w3 H y0 (A2.trans A3) S6
          · exact k.elim
        · exact k.elim
      · exact k.elim
    · exact k.elim⟩
end
end Gb

namespace Gb
open PySem PySem.Spec L2
section
variable {C : Ct} {W : WX} {pn : List Nat} {w w' : Wd} {H H' : Hp} {σ σ' : L2.St} {En : Ends} {X : Cx} {ca : Cad} {ρ : List T} {t u : T} {v x : Option V} {c k : Nat} {ns : List Str} {ts : List T} {p : Addr}
theorem ixF_none {f : Str} : ∀ {ns : List Str}, ixF f ns = none → f ∉ ns
  | [], _ => by simp
  | n :: ns, h => by
    unfold ixF at h
    by_cases e : n = f
    · rw [if_pos e] at h; cases h
    · rw [if_neg e] at h
      have h2 : ixF f ns = none := by
        cases q : ixF f ns with
        | none => rfl
        | some j => rw [q] at h; cases h
      intro z
      rcases List.mem_cons.mp z with z | z
      · exact e z.symm
      · exact ixF_none h2 z
/-- a new field, of which nothing is known -/
theorem Stt.addF {dx : Addr} {fs : List (Str × V)} {f : Str} {y : V} (h : Stt C w H (.obj c ns ts :: ρ) (some (.ref p) :: σ)) (hp : H p = some (.ins (C.ca c) dx fs)) (hf : f ∉ ns) :
    After w H w (upd H p (.ins (C.ca c) dx (putF f y fs))) ∧ Stt C w (upd H p (.ins (C.ca c) dx (putF f y fs))) (.obj c (ns ++ [f]) (ts ++ [.dead]) :: ρ) (some (.ref p) :: σ) ∧ ((putF f y fs).map fun q => some q.2)[ts.length]? = some (some y) := by
  obtain ⟨F, ⟨v0, r0, f1, f2, e0, ⟨a, dx', fs', g, e3, g1, g2, q, rd, rfl⟩, h3, rfl⟩, nd, out, tr, tb⟩ := h
  injection e0 with e1 e2
  subst e1; subst e2
  cases e3
  rw [hp] at g1
  cases g1
  have hput : ∀ fs : List (Str × V), f ∉ fs.map (·.1) → putF f y fs = fs ++ [(f, y)] := by
    intro fs
    induction fs with
    | nil => intro _; rfl
    | cons b fs ih =>
      intro hn
      obtain ⟨b1, b2⟩ := b
      have n1 : ¬ b1 = f := fun z => hn (by rw [z]; simp)
      show (if b1 = f then _ else _) = _
      rw [if_neg n1, ih fun z => hn (List.mem_cons_of_mem _ z)]
      rfl
  have hput := hput fs (by rw [q]; exact hf)
  have op := out p (by simp)
  have ne : ∀ b, (w.I b ∨ w.B b ∨ w.R b) → b ≠ p := fun b z e => by
    subst e
    rcases z with z | z | z
    · exact op.1 z
    · exact op.2.1 z
    · exact op.2.2 z
  have nd' := nd
  rw [List.cons_append, List.cons_append] at nd'
  have nd1 := List.nodup_cons.mp nd'
  have nf : ∀ b, b ∈ dx :: (g ++ f2) → b ≠ p := fun b hb e => by
    subst e
    exact nd1.1 hb
  have mono : ∀ {ts : List T} {us : List (Option V)} {f' : List Addr}, (∀ b ∈ f', b ∈ dx :: (g ++ f2)) → RTs C w H ts us f' → RTs C w (upd H p (.ins (C.ca c) dx (putF f y fs))) ts us f' := fun hb r =>
    RTs_mono (w := w) (H := H) (fun b z => ⟨z, upd_ne (ne b (.inl z))⟩) (fun b z => ⟨z, upd_ne (ne b (.inr (.inl z)))⟩) _ _ _ (fun b z => upd_ne (nf b (hb b z))) r
  have q1 := mono (fun b z => List.mem_cons_of_mem _ (List.mem_append_left _ z)) rd
  have q3 := mono (fun b z => List.mem_cons_of_mem _ (List.mem_append_right _ z)) h3
  have q2 : RTs C w (upd H p (.ins (C.ca c) dx (putF f y fs))) [.dead] [some y] [] := ⟨some y, [], [], [], rfl, rfl, ⟨rfl, rfl⟩, rfl⟩
  have e4 : ((putF f y fs).map fun q => some q.2) = (fs.map fun q => some q.2) ++ [some y] := by rw [hput, List.map_append]; rfl
  have e5 : (putF f y fs).map (·.1) = ns ++ [f] := by rw [hput, List.map_append, q]; rfl
  refine ⟨⟨fun _ z => z, rfl, rfl, fun _ z => .inl z, fun b z => upd_ne (ne b z)⟩, ⟨(p :: dx :: g) ++ f2, ⟨_, σ, p :: dx :: g, f2, rfl, ⟨p, dx, putF f y fs, g, rfl, upd_same, ?_, e5, ?_, rfl⟩, q3, rfl⟩, nd, fun b hb => out b hb, fun b z => ?_, tabs_wrI tb hp⟩, ?_⟩
  · rw [upd_ne (nf dx List.mem_cons_self)]; exact g2
  · have := q1.append q2
    rw [List.append_nil] at this
    rw [e4]
    exact this
  · rw [upd_ne (ne b z)]; exact tr b z
  · have ll := rd.length
    rw [e4, List.getElem?_append_right (by omega)]
    rw [show ts.length - (fs.map fun q => some q.2).length = 0 by omega]
    rfl
/-- self.f = e -/
def putk (i : Nat) (f : Str) (ok : Nat → Bool) (t : T) (ρ1 : List T) : Option T → SR
  | some (.obj c ns ts) => if ok c = true ∧ ns.length < 1000 then (match ixF f ns with
    | some k => if k < ts.length then .next (ρ1.set i (.obj c ns (ts.set k t))) else .bad
    | none => .next (ρ1.set i (.obj c (ns ++ [f]) (ts ++ [t])))) else .bad
  | _ => .bad
def dPutF (i : Nat) (f : Str) (ok : Nat → Bool) (de : DE) : DS := fun ρ => match de ρ with
  | .ok t ρ1 => putk i f ok t ρ1 ρ1[i]?
  | .exc e ρ1 => .exc e ρ1
  | .bad => .bad
theorem ss_putF (i : Nat) {x f : Str} {e : Expr} {de : DE} {px apos pos : Pos} {ok : Nat → Bool} (he : SE X ca W e de) (ho : ObF X.K ca f ok) (hN : X.N[i]? = some x := by rfl) (hv : Vis X.env.scope x := by first | exact Or.inl rfl | exact Or.inr (Or.inl rfl) | exact Or.inr (Or.inr rfl))
    (hd : (x == ("__debug__" : Str)) = false := by decide) (hcd : (x == ("__classdict__" : Str)) = false := by decide) (hs : swapsWith e (some (.Attribute (.Name x px) f apos)) pos.line X.env = pure false := by rfl) :
    SS X ca W pn (.Assign [.Attribute (.Name x px) f apos] e pos) (dPutF i f ok de) :=
  ⟨PS.imp (ps_fld (pe_var hN hv hd hcd) he.pe hs) fun D σ H q => by
    obtain ⟨w, ρ, S, k⟩ := q
    show tE _ _ de σ H _
    refine ⟨w, ρ, S, ?_⟩
    unfold dPutF at k
    cases e1 : de ρ with
    | bad => rw [e1] at k; exact k
    | exc x1 ρ1 =>
      rw [e1] at k
      exact fun w1 H1 cls dx A1 S1 xx => k w1 H1 σ cls dx A1 S1 .refl xx
    | ok t ρ1 =>
      rw [e1] at k
      simp only at k
      intro w1 H1 v A1 S1
      unfold putk at k
      split at k
      · rename_i c ns ts hi
        split at k
        · rename_i hc
          obtain ⟨hok, hl⟩ := hc
          obtain ⟨c1, c2⟩ := ho c hok
          have hil : i < ρ1.length := (List.getElem?_eq_some_iff.mp hi).1
          have hi' : (t :: ρ1)[i + 1]? = some (.obj c ns ts) := by simpa using hi
          split at k
          · rename_i j hj
            split at k
            · rename_i hjl
              obtain ⟨v', hv', S2⟩ := S1.move hi'
              rw [List.set_cons_succ] at S2
              obtain ⟨p, dx0, fs0, rfl, _, _, _⟩ := S2.head_obj
              obtain ⟨dx, fs, y, g1, g2, g3, S3⟩ := S2.unplugF (List.getElem?_eq_getElem hjl)
              have S4 := S3.swap.drop
              obtain ⟨A5, S5, g5⟩ := S4.wrF (f := f) (y := v) (by rw [List.getElem?_set_self hjl]) g1 hj
              have S6 := S5.plugF (k := j) (by rw [List.getElem?_set_self hjl]) upd_same g5
              rw [List.set_set] at S6
              have hv'' : σ[i]? = some (some (.ref p)) := by simpa using hv'
              have S7 := S6.backO hv'' hil
              refine ⟨.ref p, hv'', p, _, dx, fs, rfl, g1, c1, c2, ?_, k _ _ _ (A1.trans A5) S7 .refl⟩
              rw [← List.length_map (f := (·.1)), g2]; exact hl
            · exact k.elim
          · rename_i hj
            have hfn := ixF_none hj
            obtain ⟨v', hv', S2⟩ := S1.move hi'
            rw [List.set_cons_succ] at S2
            obtain ⟨p, dx, fs, rfl, g1, g2, g3⟩ := S2.head_obj
            obtain ⟨A5, S5, g5⟩ := S2.addF (f := f) (y := v) g1 hfn
            have S6 := S5.plugF (k := ts.length) (by rw [List.getElem?_append_right (Nat.le_refl _), Nat.sub_self]; rfl) upd_same g5
            have e9 : (ts ++ [T.dead]).set ts.length t = ts ++ [t] := by
              rw [List.set_append_right _ _ (Nat.le_refl _), Nat.sub_self]
              rfl
            rw [e9] at S6
            have hv'' : σ[i]? = some (some (.ref p)) := by simpa using hv'
            have S7 := S6.backO hv'' hil
            refine ⟨.ref p, hv'', p, _, dx, fs, rfl, g1, c1, c2, ?_, k _ _ _ (A1.trans A5) S7 .refl⟩
            rw [← List.length_map (f := (·.1)), g2]; exact hl
        · exact k.elim
      · exact k.elim⟩
end
end Gb

namespace Gb
open PySem PySem.Spec L2
open PyProof.Rows (envOfC)
section
variable {C : Ct} {W : WX} {pn : List Nat} {w w' : Wd} {H H' : Hp} {σ σ' : L2.St} {En : Ends} {X : Cx} {ca : Cad} {ρ : List T} {t u o : T} {v x : Option V} {c k : Nat} {ns : List Str} {ts : List T} {p q : Addr}
/-! defs that change what they are given, also where they raise -/
def finX (n : Nat) : SR → FR
  | .next ρ => .okm (.imm false .non) (ρ.take n)
  | .ret t ρ => .okm t (ρ.take n)
  | .exc e ρ => .excm e (ρ.take n)
  | .brk _ => .bad
  | .cont _ => .bad
  | .bad => .bad
def mkFnX (N n : Nat) (body : DS) : FnT := fun ts => if ts.length = n then finX n (body (ts ++ List.replicate (N - n) .dead)) else .bad
variable {P : Program} {wd : World} {K : PySem.W.Frag} {mg : Str → Option Value} {base : Heap}
theorem spFX_len {n N : Nat} {body : DS} {vs : List V} {H : Hp} {Q : VK} {E : XK} (h : spF C (mkFnX N n body) vs H Q E) : vs.length = n := by
  obtain ⟨w, ts, S, k⟩ := h
  unfold mkFnX at k
  by_cases lt : ts.length = n
  · have := S.len
    rw [List.length_map] at this
    omega
  · rw [if_neg lt] at k; exact k.elim
theorem fn_bodyX {N ps : List Str} {body : DS} {vs : List V} {H : Hp} {Q : VK} {E : XK} (h : spF C (mkFnX N.length ps.length body) vs H Q E) :
    tS C (fun cls d _ H => E cls d H) (List.range ps.length) body { nx := fun _ H' => Q .non H', rt := Q } (L2.start N vs) H := by
  obtain ⟨w, ts, S, k⟩ := h
  unfold mkFnX at k
  by_cases lt : ts.length = ps.length
  case neg => rw [if_neg lt] at k; exact k.elim
  rw [if_pos lt] at k
  have l : vs.length = ps.length := by
    have := S.len
    rw [List.length_map] at this
    omega
  have tk : ∀ σ' : L2.St, Same' (List.range ps.length) (L2.start N vs) σ' → σ'.take ps.length = vs.map some := fun σ' P => by
    refine List.ext_getElem? fun j => ?_
    rw [List.getElem?_take]
    by_cases hj : j < ps.length
    · rw [if_pos hj, P j (List.mem_range.mpr hj), start_len l, List.getElem?_append_left (by simp; omega)]
    · rw [if_neg hj, List.getElem?_eq_none (by simp; omega)]
  refine ⟨w, ts ++ List.replicate (N.length - ps.length) .dead, ?_, ?_⟩
  · rw [start_len l]
    exact S.dead_append _
  · cases e : body (ts ++ List.replicate (N.length - ps.length) T.dead) with
    | next ρ' =>
      simp only [e, finX] at k
      intro w1 H1 σ1 A1 S1 P1
      have S2 := (S1.cons_imm (b := false) (d := .non) (x := .non) rfl).take1 (n := ps.length)
      rw [tk σ1 P1] at S2
      exact k w1 H1 .non A1 S2
    | ret t ρ' =>
      simp only [e, finX] at k
      intro w1 H1 σ1 v A1 S1 P1
      have S2 := S1.take1 (n := ps.length)
      rw [tk σ1 P1] at S2
      exact k w1 H1 v A1 S2
    | exc x ρ' =>
      simp only [e, finX] at k
      intro w1 H1 σ1 cls dx A1 S1 P1 x1
      have S2 := ((S1.cons_imm (b := false) (d := .non) (x := .non) rfl).take1 (n := ps.length)).drop
      rw [tk σ1 P1] at S2
      exact k w1 H1 cls dx A1 S2 x1
    | brk _ => simp only [e, finX] at k; exact k.elim
    | cont _ => simp only [e, finX] at k; exact k.elim
    | bad => simp only [e, finX] at k; exact k.elim
theorem fn_okX {ca : Cad} {x qual : Str} {st : Stmt} {f : Addr} {fd : FuncData} {N ps : List Str} {k : Nat} {body : DS} (F : Fun K x qual st f fd) (S : FnScope N ps (defScope st))
    (hb : ∀ (cdv : Value) (A : Around) (outer : List Env) (s : Shared) (H : Hp) (E : XK), RoomG k (A.deeper (envOfC qual (defScope st) s.heap.objs.size f cdv)) →
      SB (cxOf (L2.CX P wd) P wd K mg base N qual (defScope st) f cdv A outer s H E) ca (fun cls d _ H => E cls d H) (List.range ps.length) (defBody st) body) : FnG P wd K mg base (L2.CX P wd) (k + 1) f fd ps (spF ⟨K, ca⟩ (mkFnX N.length ps.length body)) :=
  by
    obtain ⟨oc, od, kV, doc, pm, an, cdv, ct, osl, rfl, lk, hcd⟩ := F.ex
    exact fn_ofG lk hcd S (fun vs H Q E h => spFX_len h) fun A outer s H vs Q E hr h => ⟨_, (hb cdv A outer s H E hr).pss, fn_bodyX h⟩
/-! o.m(..) of one's own thing, changed by it -/
def afterO (i : Nat) (ρ1 : List T) : FR → ER T
  | .okm t (o :: _) => .ok t (ρ1.set i o)
  | .excm e (o :: _) => .exc e (ρ1.set i o)
  | _ => .bad
def metho (i : Nat) (m : Str) (c : Nat) (Fn : FnT) (ds : List D) (ts ρ1 : List T) : Option T → ER T
  | some (.obj c' ns us) => if c' = c ∧ m ∉ ns then afterO i ρ1 (Fn (.obj c' ns us :: (ts ++ ds.map (T.imm false)))) else .bad
  | _ => .bad
def isO (m : Str) (c : Nat) : Option T → Bool
  | some (.obj c' ns us) => decide (c' = c ∧ m ∉ ns)
  | _ => false
def dMethO (i : Nat) (m : Str) (c : Nat) (Fn : FnT) (ds : List D) (da : DA) : DE := fun ρ => if isO m c ρ[i]? = true then (da ρ).bind fun ts ρ1 => metho i m c Fn ds ts ρ1 ρ1[i]? else .bad
theorem isO_inv {m : Str} {x : Option T} (h : isO m c x = true) : ∃ ns us, x = some (.obj c ns us) ∧ m ∉ ns := by
  unfold isO at h
  split at h
  · have := of_decide_eq_true h
    obtain ⟨rfl, h2⟩ := this
    exact ⟨_, _, rfl, h2⟩
  · cases h
/-- the call with what is in front as its own, the others behind -/
theorem callO {i : Nat} {Fn : FnT} {ds : List D} {dvs vs : List V} {ats : List T} {Q : VK} {g : FR → ER T} (l : vs.length = ats.length) (S : Stt C w H (o :: (ats ++ ρ)) (some (.ref p) :: (vs.map some ++ σ))) (hd : ∀ (H : Hp) (A : Addr → Prop), RDs C H A ds dvs)
    (hg1 : ∀ t o' os, g (.okm t (o' :: os)) = .bad ∨ ∃ ρ2, g (.okm t (o' :: os)) = .ok t ρ2 ∧ ∀ (w' : Wd) (H' : Hp) (v : V), Stt C w' H' (t :: o' :: ρ) (some v :: some (.ref p) :: σ) → Stt C w' H' (t :: ρ2) (some v :: σ))
    (hg2 : ∀ e o' os, g (.excm e (o' :: os)) = .bad ∨ ∃ ρ2, g (.excm e (o' :: os)) = .exc e ρ2 ∧ ∀ (w' : Wd) (H' : Hp), Stt C w' H' (o' :: ρ) (some (.ref p) :: σ) → Stt C w' H' ρ2 σ)
    (hg3 : ∀ t, g (.ok t) = .bad) (hg4 : ∀ t, g (.okm t []) = .bad) (hg5 : ∀ e, g (.exc e) = .bad) (hg6 : ∀ e, g (.excm e []) = .bad) (hg7 : g .bad = .bad)
    (k : kE C W w H σ Q (g (Fn (o :: (ats ++ ds.map (T.imm false)))))) : spF C Fn (.ref p :: (vs ++ dvs)) H Q (fun cls dx H' => W cls dx σ H') := by
  have S0' : Stt C w _ ((o :: ats) ++ ρ) ((some (.ref p) :: vs.map some) ++ σ) := S
  obtain ⟨wt, eI, eB, S1, back⟩ := S0'.pushT (by simpa using l)
  have S1' := S1.append_imms (hd _ _)
  refine ⟨wt, o :: (ats ++ ds.map (T.imm false)), by simpa [List.map_append] using S1', ?_⟩
  cases e : Fn (o :: (ats ++ ds.map (T.imm false))) with
  | bad => rw [e, hg7] at k; exact k
  | ok t => rw [e, hg3] at k; exact k.elim
  | exc z => rw [e, hg5] at k; exact k.elim
  | okm t outs =>
    rw [e] at k
    cases outs with
    | nil => rw [hg4] at k; exact k.elim
    | cons o' os =>
      rcases hg1 t o' os with q | ⟨ρ2, q, hq⟩
      · rw [q] at k; exact k.elim
      · rw [q] at k
        intro w2 H2 v A2 S2
        have S3 : Stt C w2 H2 (t :: (o' :: os).take 1) (some v :: ((some (.ref p) :: (vs ++ dvs).map some)).take 1) := by
          have := S2.take1 (n := 1)
          simpa using this
        obtain ⟨w3, e3, A3, S4⟩ := back w2 H2 [t, o'] [some v, some (.ref p)] A2 S3
        exact k w3 H2 v A3 (hq w3 H2 v S4)
  | excm z outs =>
    rw [e] at k
    cases outs with
    | nil => rw [hg6] at k; exact k.elim
    | cons o' os =>
      rcases hg2 z o' os with q | ⟨ρ2, q, hq⟩
      · rw [q] at k; exact k.elim
      · rw [q] at k
        intro w2 H2 cls dx A2 S2 x2
        have S3 : Stt C w2 H2 [o'] [some (.ref p)] := by
          have := ((S2.cons_imm (b := false) (d := .non) (x := .non) rfl).take1 (n := 1)).drop
          simpa using this
        obtain ⟨w3, e3, A3, S4⟩ := back w2 H2 [o'] [some (.ref p)] A2 S3
        exact k w3 H2 cls dx A3 (hq w3 H2 S4) (x2.I e3)
theorem getO {ats : List T} {i : Nat} : (ats ++ ρ)[ats.length + i]? = ρ[i]? := by
  rw [List.getElem?_append_right (by omega)]
  congr 1
  omega
theorem setO {ats : List T} {i : Nat} {t : T} : (ats ++ ρ).set (ats.length + i) t = ats ++ ρ.set i t := by
  rw [List.set_append_right _ _ (by omega)]
  congr 2
  omega
theorem callO_slot {i : Nat} {m : Str} {Fn : FnT} {ds : List D} {dvs vs : List V} {ats : List T} {Q : VK} (l : vs.length = ats.length) (hσ : σ[i]? = some (some (.ref p))) (S : Stt C w H (ats ++ ρ) (vs.map some ++ σ)) (hd : ∀ (H : Hp) (A : Addr → Prop), RDs C H A ds dvs)
    (k : kE C W w H σ Q (metho i m c Fn ds ats ρ ρ[i]?)) : spF C Fn (.ref p :: (vs ++ dvs)) H Q (fun cls dx H' => W cls dx σ H') := by
  unfold metho at k
  split at k
  · rename_i c' ns us e0
    split at k
    · rename_i hm
      have hil : i < ρ.length := (List.getElem?_eq_some_iff.mp e0).1
      obtain ⟨v', hv', S1⟩ := S.move (i := ats.length + i) (by rw [getO]; exact e0)
      rw [setO] at S1
      have ev : v' = some (.ref p) := by
        have lm : (vs.map some).length = ats.length := by simpa using l
        rw [← lm] at hv'
        rw [List.getElem?_append_right (by omega), show (vs.map some).length + i - (vs.map some).length = i by omega, hσ] at hv'
        cases hv'
        rfl
      subst ev
      refine callO (i := i) (g := afterO i ρ) l S1 hd ?_ ?_ (fun _ => rfl) (fun _ => rfl) (fun _ => rfl) (fun _ => rfl) rfl k
      · intro t o' os
        refine .inr ⟨_, rfl, fun w' H' v S' => ?_⟩
        have := (S'.swap).backO (ρ := t :: ρ) (i := i + 1) (by simpa using hσ) (by simp; omega)
        simpa using this
      · intro e o' os
        exact .inr ⟨_, rfl, fun w' H' S' => S'.backO hσ hil⟩
    · exact k.elim
  · exact k.elim
theorem se_methO (i : Nat) {kk : Nat} {m xn : Str} {c : Nat} {ds : List D} {Fn : FnT} {e : Expr} {es : List Expr} {da : DA} {px apos pos : Pos} {pl : Sem Bool} (me : MeC X.prog X.w X.K X.mg X.base ca kk m c ds Fn) (hr : RoomG kk X.A) (tk : Takes X W) (ha : SA X ca W (e :: es) da)
    (hN : X.N[i]? = some xn := by rfl) (hv : Vis X.env.scope xn := by first | exact Or.inl rfl | exact Or.inr (Or.inl rfl) | exact Or.inr (Or.inr rfl))
    (hd : (xn == ("__debug__" : Str)) = false := by decide) (hcd : (xn == ("__classdict__" : Str)) = false := by decide)
    (hst : starEach (e :: es) X.env = (false, eval e X.env) :: starEach es X.env := by rfl) (hpl : (backTo pos (starEach es X.env)).any (·.1) = false := by rfl)
    (ht : eval (.Call (.Attribute (.Name xn px) m apos) (e :: es) [] pos) X.env = (do
      let ov ← eval (.Name xn px) X.env
      standAt apos.atName
      let (f, first) ← holding [ov] (getMethod ov m pl)
      callWith pos f first (backTo pos (starEach (e :: es) X.env)) (backToKw pos (keywordEach [] X.env))) := by rfl) :
    SE X ca W (.Call (.Attribute (.Name xn px) m apos) (e :: es) [] pos) (dMethO i m c Fn ds da) := by
  obtain ⟨f, fd, ps, dvs, us, F, hc, hm, hb, hdv, rd⟩ := me.ex
  exact ⟨PE.imp (pe_methSD (pe_var hN hv hd hcd) hc hm F hr hb hdv (fun σ => passAt tk σ) ha.pa hst hpl ht) fun σ H Q q => by
    obtain ⟨w, ρ, S, k⟩ := q
    unfold dMethO at k
    split at k
    · rename_i h0
      obtain ⟨ns, us', e0, hmn⟩ := isO_inv h0
      obtain ⟨v', hv', S1⟩ := S.move e0
      obtain ⟨p, dx, fs, rfl, h1, h2, h3⟩ := S1.head_obj
      refine ⟨_, hv', p, dx, fs, rfl, h1, lookup_none (by rw [h2]; exact hmn), exA ⟨w, ρ, S, k⟩ fun w1 H1 ats ρ1 vs l S2 k2 => ?_⟩
      exact callO_slot (C := ⟨X.K, ca⟩) l hv' S2 rd k2
    · exact k.elim⟩
def dMethO0 (i : Nat) (m : Str) (c : Nat) (Fn : FnT) (ds : List D) : DE := fun ρ => metho i m c Fn ds [] ρ ρ[i]?
theorem se_methO0 (i : Nat) {kk : Nat} {m xn : Str} {c : Nat} {ds : List D} {Fn : FnT} {px apos pos : Pos} {pl : Sem Bool} (me : MeC X.prog X.w X.K X.mg X.base ca kk m c ds Fn) (hr : RoomG kk X.A) (tk : Takes X W)
    (hN : X.N[i]? = some xn := by rfl) (hv : Vis X.env.scope xn := by first | exact Or.inl rfl | exact Or.inr (Or.inl rfl) | exact Or.inr (Or.inr rfl))
    (hd : (xn == ("__debug__" : Str)) = false := by decide) (hcd : (xn == ("__classdict__" : Str)) = false := by decide)
    (ht : eval (.Call (.Attribute (.Name xn px) m apos) [] [] pos) X.env = (do
      let ov ← eval (.Name xn px) X.env
      standAt apos.atName
      let (f, first) ← holding [ov] (getMethod ov m pl)
      callWith pos f first (backTo pos (starEach [] X.env)) (backToKw pos (keywordEach [] X.env))) := by rfl) :
    SE X ca W (.Call (.Attribute (.Name xn px) m apos) [] [] pos) (dMethO0 i m c Fn ds) := by
  obtain ⟨f, fd, ps, dvs, us, F, hc, hm, hb, hdv, rd⟩ := me.ex
  exact ⟨PE.imp (pe_methSD0 (pe_var hN hv hd hcd) hc hm F hr hb hdv (fun σ => passAt tk σ) ht) fun σ H Q q => by
    obtain ⟨w, ρ, S, k⟩ := q
    unfold dMethO0 at k
    have h0 : ∃ ns us, ρ[i]? = some (.obj c ns us) ∧ m ∉ ns := by
      unfold metho at k
      split at k
      · rename_i c' ns us e0
        split at k
        · rename_i hq
          obtain ⟨rfl, hq⟩ := hq
          exact ⟨ns, us, e0, hq⟩
        · exact k.elim
      · exact k.elim
    obtain ⟨ns, us', e0, hmn⟩ := h0
    obtain ⟨v', hv', S1⟩ := S.move e0
    obtain ⟨p, dx, fs, rfl, h1, h2, h3⟩ := S1.head_obj
    exact ⟨_, hv', p, dx, fs, rfl, h1, lookup_none (by rw [h2]; exact hmn), callO_slot (C := ⟨X.K, ca⟩) (vs := []) (ats := []) rfl hv' S rd k⟩⟩
end
end Gb

namespace Gb
open PySem PySem.Spec L2
section
variable {C : Ct} {W : WX} {pn : List Nat} {w w' : Wd} {H H' : Hp} {σ σ' : L2.St} {En : Ends} {X : Cx} {ca : Cad} {ρ : List T} {t u o : T} {v x : Option V} {c k : Nat} {ns : List Str} {ts : List T} {p q : Addr}
/-! self.f.m(..): a thing within one's own thing, changed by its own def -/
/-- just this address -/
def ptT (a : Nat) : T := .imm false (.exn a 0 [] [])
theorem Stt.pt (S : Stt C w H ρ σ) (q : Addr) : Stt C w H (ptT q :: ρ) (some (.ref q) :: σ) := S.cons_imm ⟨rfl, .inl rfl⟩
/-- the field's thing is taken out, its place is kept by its address -/
theorem Stt.hole {i : Nat} (S : Stt C w H ρ σ) (hi : ρ[i]? = some (.obj c ns ts)) (hk : ts[k]? = some t) (hq : ∀ (w : Wd) (v : Option V) (ρ' : List T) (σ' : L2.St), Stt C w H (t :: ρ') (v :: σ') → ∃ q, v = some (.ref q)) :
    ∃ p dx fs q, σ[i]? = some (some (.ref p)) ∧ H p = some (.ins (C.ca c) dx fs) ∧ fs.map (·.1) = ns ∧ (fs.map fun q => some q.2)[k]? = some (some (.ref q)) ∧ Stt C w H (t :: ρ.set i (.obj c ns (ts.set k (ptT q)))) (some (.ref q) :: σ) := by
  obtain ⟨p, dx, fs, y, h1, h2, h3, h4, S1, _⟩ := S.field hi hk
  obtain ⟨q, rfl⟩ := hq _ _ _ _ S1.swap
  have hkl := (List.getElem?_eq_some_iff.mp hk).1
  have S2 := ((S1.pt q).swap).plugF (k := k) (by rw [List.getElem?_set_self hkl]) h2 h4
  rw [List.set_set] at S2
  have S3 := Stt.backO (ρ := t :: ρ) (i := i + 1) (by simpa using S2) (by simpa using h1) (by have := (List.getElem?_eq_some_iff.mp hi).1; simp; omega)
  exact ⟨p, dx, fs, q, h1, h2, h3, h4, by simpa using S3⟩
end
end Gb

namespace Gb
open PySem PySem.Spec L2
/-! an own list lent to a call that gives back what holds no list: nothing of it is borrowed -/
section
variable {C : Ct} {W : WX} {pn : List Nat} {w w' w1 : Wd} {H H' : Hp} {σ σ' : L2.St} {En : Ends} {X : Cx} {ca : Cad} {ρ : List T} {t u o : T} {v x : Option V} {a : Addr} {A A' : Addr → Prop}
end
end Gb

namespace Gb
open PySem PySem.Spec L2
section
variable {C : Ct} {W : WX} {pn : List Nat} {w w' : Wd} {H H' : Hp} {σ σ' : L2.St} {En : Ends} {X : Cx} {ca : Cad} {ρ : List T} {t u o : T} {v x : Option V}
/-! o.m(..) where the thing's class is known when it is met -/
theorem MeC.mono {P : Program} {wd : World} {K : PySem.W.Frag} {mg : Str → Option Value} {base : Heap} {k k' : Nat} {m : Str} {ds : List D} {c : Nat} {F : FnT} (h : MeC P wd K mg base ca k m c ds F) (le : k ≤ k') : MeC P wd K mg base ca k' m c ds F := by
  obtain ⟨f, fd, ps, dvs, us, ok, r⟩ := h.ex
  exact ⟨⟨f, fd, ps, dvs, us, ok.mono le, r⟩⟩
def methD (m : Str) (tab : List (Nat × FnT)) (ds : List D) (da : DA) : T → DE
  | .imm b (.obj c ns us) => fun ρ => match tab.lookup c with
    | some F => methk m c F ds da (.imm b (.obj c ns us)) ρ
    | none => .bad
  | _ => fun _ => .bad
def mdk (m : Str) (tab : List (Nat × FnT)) (ds : List D) (da : DA) : ER T → ER T
  | .ok x ρ1 => methD m tab ds da x ρ1
  | _ => .bad
def dMethD (m : Str) (tab : List (Nat × FnT)) (ds : List D) (de : DE) (da : DA) : DE := fun ρ => mdk m tab ds da (de ρ)
def methD0 (m : Str) (tab : List (Nat × FnT)) (ds : List D) : T → DE
  | .imm b (.obj c ns us) => fun ρ => match tab.lookup c with
    | some F => methk0 m c F ds (.imm b (.obj c ns us)) ρ
    | none => .bad
  | _ => fun _ => .bad
def mdk0 (m : Str) (tab : List (Nat × FnT)) (ds : List D) : ER T → ER T
  | .ok x ρ1 => methD0 m tab ds x ρ1
  | _ => .bad
def dMethD0 (m : Str) (tab : List (Nat × FnT)) (ds : List D) (de : DE) : DE := fun ρ => mdk0 m tab ds (de ρ)
theorem v_MethD {m : Str} {tab : List (Nat × FnT)} {ds : List D} {de : DE} {da : DA} : dMethD m tab ds de da ρ = mdk m tab ds da (de ρ) := rfl
theorem v_mdk {m : Str} {tab : List (Nat × FnT)} {ds : List D} {da : DA} : mdk m tab ds da (.ok t ρ) = methD m tab ds da t ρ := rfl
theorem v_MethD0 {m : Str} {tab : List (Nat × FnT)} {ds : List D} {de : DE} : dMethD0 m tab ds de ρ = mdk0 m tab ds (de ρ) := rfl
theorem v_mdk0 {m : Str} {tab : List (Nat × FnT)} {ds : List D} : mdk0 m tab ds (.ok t ρ) = methD0 m tab ds t ρ := rfl
theorem v_methD {m : Str} {tab : List (Nat × FnT)} {ds : List D} {da : DA} {b : Bool} {c : Nat} {ns : List Str} {us : List D} {F : FnT} (l : tab.lookup c = some F) (h : m ∉ ns) : methD m tab ds da (.imm b (.obj c ns us)) ρ = bnd (da ρ) (callo (.imm b (.obj c ns us)) F ds) := by
  unfold methD
  simp only [l]
  exact v_methk h
theorem v_methD0 {m : Str} {tab : List (Nat × FnT)} {ds : List D} {b : Bool} {c : Nat} {ns : List Str} {us : List D} {F : FnT} (l : tab.lookup c = some F) (h : m ∉ ns) : methD0 m tab ds (.imm b (.obj c ns us)) ρ = afterCall ρ (F (.imm b (.obj c ns us) :: ds.map (T.imm false))) := by
  unfold methD0
  simp only [l]
  exact v_methk0 h
/-! isinstance(o, C), C a class of the program -/
structure OwnC (K : PySem.W.Frag) (C : Addr) : Prop where
  cl : Cls K C
  ha : PySem.W.findIn K (.ref C) "__class__" = some (some (.builtin "object.__class__"))
  hn : PySem.W.specialIn K (.builtin "object.__class__") "__get__" = some (some (.builtin "getset_descriptor.__get__"))
  tk : PySem.W.takesIn K (.builtin "object.__class__") = some true
  hm : PySem.W.mroIn K C (.type "object") = some true
def isOk (r : Nat → Option Bool) : T → DE
  | .imm b (.obj c ns us) => fun ρ => match r c with
    | some v => .ok (.imm false (.bl v)) ρ
    | none => .bad
  | _ => fun _ => .bad
def dIsO (r : Nat → Option Bool) (de : DE) : DE := d1 (isOk r) de
theorem v_IsO {r : Nat → Option Bool} {de : DE} : dIsO r de ρ = bnd (de ρ) (isOk r) := rfl
theorem v_isOk {r : Nat → Option Bool} {b : Bool} {c : Nat} {ns : List Str} {us : List D} {a : Bool} (h : r c = some a) : isOk r (.imm b (.obj c ns us)) ρ = .ok (.imm false (.bl a)) ρ := by
  unfold isOk
  simp only [h]
end
end Gb

namespace Gb
open PySem PySem.Spec L2
section
variable {C : Ct} {W : WX} {w w' : Wd} {H H' : Hp} {σ σ' : L2.St} {Q : VK} {X : Cx} {ca : Cad} {ρ : List T} {t u : T}
/-! zip(tuple, tuple) -/
theorem walk_zipT {a a2 : Addr} {vs us : List V} {b c : Bool} {ds es : List D} (h : TupAt C H (w.im b) a vs) (r : RDs C H (w.im b) ds vs) (h2 : TupAt C H (w.im c) a2 us) (r2 : RDs C H (w.im c) es us) (hl : ds.length ≤ sizeLine) : Walk C w H (RZ.ItzT C.K a a2) (b || c) (zpD ds es) where
  go := fun i w' H' hi A => by
    unfold zpD at hi
    rw [List.length_zipWith] at hi
    obtain ⟨d, hd⟩ : ∃ d, ds[i]? = some d := ⟨ds[i], List.getElem?_eq_getElem (by omega)⟩
    obtain ⟨e, he⟩ : ∃ e, es[i]? = some e := ⟨es[i], List.getElem?_eq_getElem (by omega)⟩
    obtain ⟨v, hv, _⟩ := r.get hd
    obtain ⟨u, hu, _⟩ := r2.get he
    exact ⟨vs, us, v, u, (h.after A).sq, (h2.after A).sq, hv, hu⟩
  yld := fun i d w' H' ρ σ x H'' hd A S ⟨T, y, z, e, hT, eH, q, q2⟩ => by
    subst eH
    unfold zpD at hd
    rw [List.getElem?_zipWith] at hd
    cases hd0 : ds[i]? with
    | none => rw [hd0] at hd; cases hd
    | some d0 =>
      cases he0 : es[i]? with
      | none => rw [hd0, he0] at hd; cases hd
      | some e0 =>
        rw [hd0, he0] at hd
        cases hd
        obtain ⟨v, hv, rv⟩ := r.get hd0
        obtain ⟨u, hu, ru⟩ := r2.get he0
        have ey := q vs (h.after A).sq
        rw [hv] at ey
        cases ey
        have ez := q2 us (h2.after A).sq
        rw [hu] at ez
        cases ez
        exact yld_pair S hT e (RD.flag (RD_mono A.im _ _ rv) fun z => by rw [z]; rfl) (RD.flag (RD_mono A.im _ _ ru) fun z => by rw [z, Bool.or_true])
  stop := fun w' H' A => ⟨vs, us, (h.after A).sq, (h2.after A).sq, by
    unfold zpD
    rw [List.length_zipWith, r.length, r2.length]
    omega⟩
  line := by
    unfold zpD
    rw [List.length_zipWith]
    omega
def zipItemsT : List T → List T → ER (Bool × List D)
  | [.imm b (.tup ds), .imm c (.tup es)], ρ => if ds.length ≤ 16777216 then .ok (b || c, zpD ds es) ρ else .bad
  | _, _ => .bad
def diZipT (da : DA) : DI := fun ρ => (da ρ).bind zipItemsT
theorem si_zipT {e e2 : Expr} {da : DA} {p pos tpos : Pos} {elts : List Expr} {kk : Nat} (hm : X.mg "zip" = none) (ha : SA X ca W [e, e2] da) (hg : Gl X "zip" := by rfl)
    (hs : starEach [e, e2] X.env = (false, eval e X.env) :: starEach [e2] X.env := by rfl) (hpl : (backTo pos (starEach [e2] X.env)).any (·.1) = false := by rfl) :
    SI X ca W (.Tuple elts kk tpos) (.Call (.Name "zip" p) [e, e2] [] pos) (diZipT da) :=
  ⟨PI.imp (RZ.pi_zipA hg hm ha.pa hs hpl) fun σ H R q => exIA q fun w H ts ρ vs l S k => by
    unfold zipItemsT at k
    split at k
    · rename_i b ds c es
      split at k
      · rename_i hl
        obtain ⟨v, u, rfl⟩ := vs2 l
        have S' : Stt _ w H (.imm b (.tup ds) :: .imm c (.tup es) :: ρ) (some v :: some u :: σ) := S
        obtain ⟨x, ex, a, vs, rfl, la, rd⟩ := S'.head_imm
        cases ex
        obtain ⟨x2, ex2, a2, us, rfl, la2, rd2⟩ := S'.drop.head_imm
        cases ex2
        exact ⟨a, a2, vs, us, rfl, .inr ⟨.inl (.of la.2), .inl (.of la2.2), k w H _ .refl S'.drop.drop (walk_zipT (.inl ⟨la.1, .of la.2⟩) rd (.inl ⟨la2.1, .of la2.2⟩) rd2 hl)⟩⟩
      · exact (show False from k).elim
    · exact (show False from k).elim⟩
theorem v_iZipT {dr : DA} : diZipT dr ρ = bnd (dr ρ) zipItemsT := rfl
theorem v_zipItemsT {b1 b2 : Bool} {ds es : List D} (h : ds.length ≤ 16777216) : zipItemsT [.imm b1 (.tup ds), .imm b2 (.tup es)] ρ = .ok (b1 || b2, zpD ds es) ρ := if_pos h
end
end Gb

namespace Gb
open PySem PySem.Spec L2
/-! sorted(a list of tuples whose first two items are ints, these unlike) -/
section
open PyProof.Rows Srt SrtO
/-- a tuple that begins with two ints -/
def IsTwo (h : Heap) (v : Value) (p : Int × Int) : Prop := ∃ a o t u xs n, v = .ref a ∧ h.get? a = some o ∧ o.cls = .type "tuple" ∧ o.data = .seq xs n ∧ ∃ r, xs.toList = .int p.1 t :: .int p.2 u :: r
theorem IsTwo.keeps {h h' : Heap} {v : Value} {p : Int × Int} (z : IsTwo h v p) (k : ∀ b o, h.get? b = some o → o.cls = .type "tuple" → h'.get? b = some o) : IsTwo h' v p := by
  obtain ⟨a, o, t, u, xs, n, e, ho, hc, hd, r⟩ := z
  exact ⟨a, o, t, u, xs, n, e, k _ _ ho hc, hc, hd, r⟩
section
variable {prog : Program} {w : World} {A : Around} {E : Value → Shared → Prop} {s : Shared}
end
end
section
variable {X : Cx}
end
def key2 : D → Option (Int × Int)
  | .tup (.int a :: .int b :: _) => some (a, b)
  | _ => none
def k2 (d : D) : Int × Int := (key2 d).getD (0, 0)
def le2 (p q : Int × Int) : Bool := decide (p.1 < q.1 ∨ (p.1 = q.1 ∧ p.2 ≤ q.2))
def sort2 (ds : List D) : List D := ds.mergeSort fun a b => le2 (k2 a) (k2 b)
def fSort2 : List T → List T → ER T
  | [.imm false (.lst ds)], ρ => if (ds.all fun d => (key2 d).isSome) = true ∧ (ds.map k2).Nodup ∧ ds.length ≤ 16777216 then .ok (.lstI (sort2 ds)) ρ else .bad
  | _, _ => .bad
section
variable {X : Cx} {ca : Cad} {W : WX}
variable {ρ : List T}
theorem v_fSort2 {ds : List D} (h1 : (ds.all fun d => (key2 d).isSome) = true) (h2 : (ds.map k2).Nodup) (h3 : ds.length ≤ 16777216) : fSort2 [.imm false (.lst ds)] ρ = .ok (.lstI (sort2 ds)) ρ := if_pos ⟨h1, h2, h3⟩
end
end Gb

namespace L2
open PySem PySem.Spec PyProof.Rows PySem.HandSPX
/-! a list comprehension of a def that an exception leaves -/
section
variable {M : Model} {A : Around} {E : Value → Shared → Prop} {s : Shared} {Z : Obj → Prop} {base : Heap} {env : Env} {outer l : List Env} {L L' e : Addr}
/-- noted by another frame's name -/
theorem look_otherZ {Q : Unit → Shared → Prop} (hZ : Steady Z) (hfr : A.frames = some (env :: outer)) (hf : env.frame = some L) (hne : L' ≠ L) (hh : HeldZ base (env :: outer) e Z L' s.heap)
    (hQ : ∀ h', HeldZ base (env :: outer) e Z L h' → s.heap.UpToSlots h' → Q () { s with heap := h' }) : wpAny M A (noteFrame (.ref e) env) Q E s := by
  obtain ⟨hkb, hen, hl, oe, vs, T, oT, ts, he, hz, hd, h1, hnT, hTe, hT, hdT, h3⟩ := hh
  unfold noteFrame
  simp only [hf]
  refine wpAny_bind (wpAny_field he hd h1 ?_)
  rw [if_pos (show (Value.ref T != Value.none) = true from by simp)]
  refine wpAny_bind (wpAny_field hT hdT h3 ?_)
  rw [if_neg (show ¬ ((rawInt L' == rawInt L) = true) from fun z => hne (Int.ofNat.inj (by simpa [rawInt] using z)))]
  refine wpAny_bind (wpAny_setField hT hdT (Array.getElem?_eq_some_iff.mp h3).1 ?_)
  have other : ∀ b, b ≠ T → (s.heap.update T (Obj.mapFields (·.setIfInBounds 3 Value.none))).get? b = s.heap.get? b := fun b hb => Heap.get?_update_other _ _ (Ne.symm hb)
  have noRecord : ∀ b o, s.heap.get? b = some o → (∀ vs, o.data ≠ .fields vs) → b ≠ T := fun b o hb hnf q => by
    rw [q, hT] at hb; injection hb with hb; subst hb; exact hnf ts hdT
  refine wpAny_entryZ hZ hfr (hl.of_keeps fun b o hb hnf => ⟨o, (other b (noRecord b o hb hnf)).trans hb, rfl⟩) hf ((other e (Ne.symm hTe)).trans he)
    (fun b o hbo => (other b fun q => by rw [q, hnT] at hbo; cases hbo).trans (hkb b o hbo)) hen hd (Array.getElem?_eq_some_iff.mp h1).1 hz fun h' hN => ?_
  obtain ⟨x1, x2, x3, x4⟩ := hN
  exact hQ h' ⟨x1, hen, x2, x3⟩ fun b o hb hnf => x4 b o ((other b (noRecord b o hb hnf)).trans hb) hnf
end
theorem funFrames_move {base B2 h h2 : Heap} : ∀ {l : List Env}, h.FunFrames base l → (∀ b, base.get? b = none → B2.get? b = none ∧ h2.get? b = h.get? b) → h2.FunFrames B2 l
  | [], _, _ => trivial
  | env :: l, h, k => by
    obtain ⟨hk, ⟨L, o, hf, hb, ho, hd⟩, hr⟩ := h
    exact ⟨hk, ⟨L, o, hf, (k L hb).1, (k L hb).2.trans ho, hd⟩, funFrames_move hr k⟩
section
variable {M : Model} {A : Around} {E : Value → Shared → Prop} {s : Shared} {env : Env}
def cPostX (M : Model) (A : Around) (E : Value → Shared → Prop) (use : Option (Value → Sem Unit)) (Q : Value → Shared → Prop) (acc : Value) (cenv : Env) (r : Result) (s' : Shared) : Prop :=
  match r, use with
  | .ok _, none => ∃ m, s'.heap.Ns cenv.locals m ∧ ∀ h', Heap.SameBut cenv.locals s'.heap h' → Q acc { s' with heap := h' }
  | .ok _, some u => wpAny M A (u acc) (fun _ s'' => ∃ m, s''.heap.Ns cenv.locals m ∧ ∀ h', Heap.SameBut cenv.locals s''.heap h' → Q .none { s'' with heap := h' }) E s'
  | .error x, _ => ∃ m, s'.heap.Ns cenv.locals m ∧ ∀ h', Heap.SameBut cenv.locals s'.heap h' → wpAny M A (passOn "comprehension.variables-let-go" x cenv : Sem Value) (fun _ _ => False) E { s' with heap := h' }
theorem wpAny_comp_freeX {e : Expr} {scope : Scope} {pos : Pos} {newAcc first : Sem Value} {g : Comprehension} {gs : List Comprehension} {cl : List (Str × Addr)} {use : Option (Value → Sem Unit)}
    {Q : Value → Shared → Prop}
    (hcl : clausesOf e = g :: gs) (hs : ∀ x, foldedSetIterable g.iter env x = pure x) (hclos : closureFor scope env = pure cl)
    (hkind : scope.kind = .function) (hnames : ∀ x ∈ scope.names, x.2 = .local → scope.names.lookup x.1 = some .local)
    (h : wpAny M A first (fun x s₁ => wpAny M A (pyIter x) (fun it s₂ => wpAny M A newAcc (fun acc s₃ =>
      wpAny M A (newFunctionEnv scope env.globals cl [] env.qual none .none (some env)) (fun cenv s₄ =>
        codeAny M A (.compStart e 0 it acc { cenv with scope := relabel scope env }) (cPostX M A E use Q acc { cenv with scope := relabel scope env }) s₄) E s₃) E s₂) E s₁) E s) :
    wpAny M A (comprehension e scope env pos newAcc false first use) Q E s := by
  unfold comprehension
  rw [hclos, hcl]
  refine wpAny_bind (wpAny_mono h (fun x s₁ h₁ => wpAny_bind (wpAny_standAt (wpAny_bind (wpAny_of_eq (hs x) (wpAny_bind (wpAny_holding (wpAny_mono h₁ (fun it s₂ h₂ =>
    wpAny_standIf (wpAny_bind (wpAny_mono h₂ (fun acc s₃ h₃ => wpAny_bind (wpAny_pure (wpAny_bind (wpAny_mono h₃ (fun cenv s₄ h₄ => ?_) fun _ _ h' => h')))) fun _ _ h' => h')))
      fun _ _ h' => h'))))))) fun _ _ h' => h')
  dsimp only
  have hv : ∀ x ∈ (scope.names.filter fun x => (x.2 == .local || x.2 == .cell) && x.1 != (".0" : Str)).reverse, x.2 = .local →
      Env.kindOf { cenv with scope := relabel scope env } x.1 = some .local := fun x hx hl => lookup_relabel_local (hnames x (List.mem_filter.mp (List.mem_reverse.mp hx)).1 hl)
  have hv' : ∀ x ∈ (scope.names.filter fun x => (x.2 == .local || x.2 == .cell) && x.1 != (".0" : Str)).reverse.drop 1 ++ (scope.names.filter fun x => (x.2 == .local || x.2 == .cell) && x.1 != (".0" : Str)).reverse.take 1,
      x.2 = .local → Env.kindOf { cenv with scope := relabel scope env } x.1 = some .local := fun x hx hl => by
    rcases List.mem_append.mp hx with h1 | h1
    · exact hv x (List.mem_of_mem_drop h1) hl
    · exact hv x (List.mem_of_mem_take h1) hl
  refine wpAny_holding (wpAny_bind (wpAny_attempt (wpAny_holding (wpAny_run (codeAny_mono h₄ fun r s' hr => ?_)))))
  cases r with
  | ok f =>
    cases use with
    | none =>
      obtain ⟨m, hn, hr⟩ := hr
      exact wpAny_bind (wpAny_holding (wpAny_comp_letGo (cenv := { cenv with scope := relabel scope env }) hkind _ s' m hv hn fun h' m' _ hs' => wpAny_pure (hr h' hs')))
    | some u =>
      refine wpAny_bind (wpAny_rule (wpAny_bind (wpAny_holding (wpAny_mono hr (fun _ s'' hr' => ?_) fun _ _ h' => h'))))
      obtain ⟨m, hn, hr'⟩ := hr'
      exact wpAny_bind (wpAny_comp_letGo (cenv := { cenv with scope := relabel scope env }) hkind _ s'' m hv' hn fun h' m' _ hs' => wpAny_pure (hr' h' hs'))
  | error x =>
    have hr' : ∃ m, s'.heap.Ns cenv.locals m ∧ ∀ h', Heap.SameBut cenv.locals s'.heap h' → wpAny M A (passOn "comprehension.variables-let-go" x { cenv with scope := relabel scope env } : Sem Value) (fun _ _ => False) E { s' with heap := h' } := by cases use <;> exact hr
    obtain ⟨m, hn, hr⟩ := hr'
    exact wpAny_bind (wpAny_holding (wpAny_comp_letGo (cenv := { cenv with scope := relabel scope env }) hkind _ s' m hv hn fun h' m' _ hs' => wpAny_mono (hr h' hs') (fun _ _ f => f.elim) fun _ _ y => y))
end
abbrev Cx.blkX (X : Cx) (s : Shared) (H : Hp) (scope : Scope) (cenv : Env) (fp : List Addr) (xe : Value → Shared → Prop) : Cx := { X with s_0 := s, H_0 := H, env := cenv, outer := X.stack, ex := fp, fn := fun x => scope.names.lookup x == some .cell, pn := [], xe := xe }
theorem Inv.withX {X : Cx} {pins : List (Addr × Obj)} {σ : St} {H H0 : Hp} {s s0 : Shared} {scope : Scope} {ce : Env} {fp : List Addr} {xe : Value → Shared → Prop} (I : Inv (X.blk s0 H0 scope ce fp) pins σ H s) : Inv (X.blkX s0 H0 scope ce fp xe) pins σ H s :=
  ⟨⟨I.ok.mod, I.ok.kind, I.ok.glob, I.ok.blt, I.ok.above, I.ok.inj, I.ok.has, I.ok.cab, I.ok.hd, I.ok.frames, I.ok.stk, I.ok.exf, I.ok.bs, I.ok.bsz, I.ok.noex, I.ok.exfs, I.ok.funs, I.ok.frf⟩, I.os, I.bare, I.base, I.loc, I.cell, I.free, I.freeC, I.pin, I.hok, I.len⟩
section
variable {X : Cx}
/-- the exception leaves the block -/
theorem takes_blk {W : WX} (hs : X.stack = X.env :: X.outer) (hf : X.env.frame = some X.env.locals) (tk : Takes X W) {σ : St} {pins : List (Addr × Obj)} {H3 : Hp} {s3 : Shared} (I3 : Inv X pins σ H3 s3) {scope : Scope} {cl : List (Str × Addr)} {fp : List Addr}
    (f3 : ∀ b ∈ fp, FpOk X pins H3 b ∧ b < s3.heap.objs.size) {use : Option (Value → Sem Unit)} {Qf : Value → Shared → Prop} {D : Value} {xe : Value → Shared → Prop} {u : Value} {s' : Shared}
    (x : XE (X.blkX s3 H3 scope (compEnvC scope cl s3.heap.objs.size X.env) fp xe) (fun cls dx _ H' => W cls dx σ H') u s') :
    notedBy (model X.prog X.w) X.A (compEnvC scope cl s3.heap.objs.size X.env) (fun e s' => cPostX (model X.prog X.w) X.A X.xe use Qf D (compEnvC scope cl s3.heap.objs.size X.env) (.error e) s') u s' := by
  obtain ⟨a, B, sI, pins', σ', H', cls, d, rfl, J, nb, up, sky, na, os, ag, w⟩ := x
  have J0 : Inv X pins σ H' sI := I3.call' (ch := fp) J.os J.base J.hok J.bare fun b hb => ⟨(f3 b hb).1.2.2.2.1, (f3 b hb).1.2.1, (f3 b hb).1.2.2.2.2.1, (f3 b hb).1.2.2.2.2.2⟩
  have nC : H' s3.heap.objs.size = none := J.free
  obtain ⟨m, hn, _⟩ := J.loc
  have hn : sI.heap.Ns s3.heap.objs.size m := hn
  have fC : FpOk X pins H' s3.heap.objs.size := I3.fpOk (Nat.le_refl _) nC
  obtain ⟨f0, f1, f2, f4, f5, f6⟩ := id fC
  have hfr : X.A.frames = some (X.env :: X.outer) := by rw [J0.ok.frames, hs]
  have nst : s3.heap.objs.size ∉ frs X.stack := fun hm => by
    rcases J0.stkSub _ hm |> List.mem_cons.mp with z | z
    · exact f1 z
    · exact f2 z
  have sky' : Sky B (X.env :: X.outer) a (Zc cls d) s3.heap.objs.size s'.heap := by
    rw [← hs]; exact sky
  show wpAny _ _ (noteFrame (.ref a) X.env) _ _ _
  have fin : ∀ h1, HeldZ B (X.env :: X.outer) a (Zc cls d) X.env.locals h1 → s'.heap.UpToSlots h1 →
      cPostX (model X.prog X.w) X.A X.xe use Qf D (compEnvC scope cl s3.heap.objs.size X.env) (.error (.ref a)) { s' with heap := h1 } := fun h1 hh up1 => by
    obtain ⟨oC, es, ep, eC, rC⟩ := id hn
    have eB : B.get? s3.heap.objs.size = some oC := nb _ _ eC nst
    have goal : ∃ m, h1.Ns s3.heap.objs.size m ∧ ∀ h', Heap.SameBut s3.heap.objs.size h1 h' → wpAny (model X.prog X.w) X.A (passOn "comprehension.variables-let-go" (.ref a) (compEnvC scope cl s3.heap.objs.size X.env) : Sem Value) (fun _ _ => False) X.xe { s' with heap := h' } := by
      refine ⟨m, ⟨oC, es, ep, hh.1 _ _ eB, rC⟩, fun h2 sb => ?_⟩
      have off : ∀ b, B.get? b = none → b ≠ s3.heap.objs.size := fun b e z => by rw [z, eB] at e; cases e
      have hh2 : HeldZ (PySem.W.hideAll B [s3.heap.objs.size]) (X.env :: X.outer) a (Zc cls d) X.env.locals h2 := by
        obtain ⟨g1, g2, g3, oe, vs, T, oT, ts, he, hz, hd, h1', hnT, hTe, hT, hdT, h3⟩ := hh
        have hid : ∀ b, B.get? b = none → (PySem.W.hideAll B [s3.heap.objs.size]).get? b = none := fun b e => by
          cases q : (PySem.W.hideAll B [s3.heap.objs.size]).get? b with
          | none => rfl
          | some o =>
            have := PySem.W.of_hideAll _ q
            rw [e] at this; cases this
        refine ⟨fun b o e => ?_, hid _ g2, funFrames_move g3 fun b e => ⟨hid b e, sb.2 b (off b e)⟩, oe, vs, T, oT, ts, (sb.2 a (off a g2)).trans he, hz, hd, h1', hid _ hnT, hTe, (sb.2 T (off T hnT)).trans hT, hdT, h3⟩
        have hb : b ≠ s3.heap.objs.size := fun z => by
          rw [z, PySem.W.hideAll_none _ (List.mem_singleton.mpr rfl)] at e; cases e
        exact (sb.2 b hb).trans (g1 b o (PySem.W.of_hideAll _ e))
      obtain ⟨k1, k2, k3, oe, vs, T, oT, ts', he, hz, hd, h1', hr⟩ := id hh2
      unfold PySem.passOn
      refine wpAny_bind (wpAny_field he hd h1' ?_)
      rw [if_neg (show ¬ ((Value.ref T == Value.none) = true) from by simp)]
      have fin : wpAny (model X.prog X.w) X.A (setFlight (.ref a) (compEnvC scope cl s3.heap.objs.size X.env).frame) (fun _ s4 => wpAny (model X.prog X.w) X.A (throw (.ref a) : Sem Value) (fun _ _ => False) X.xe s4) X.xe { s' with heap := h2 } := by
        rw [show (compEnvC scope cl s3.heap.objs.size X.env).frame = some X.env.locals from hf]
        refine HandSPX.setFlight_onZ hh2 fun h4 hh4 up4 => wpAny_throw (tk _ _ ?_)
        refine ⟨a, PySem.W.hideAll B [s3.heap.objs.size], { sI with heap := PySem.W.hideAll sI.heap [s3.heap.objs.size], toks := sI.toks }, pins, σ, H', cls, d, rfl,
          J0.turned (it := s3.heap.objs.size) (fun b o hb e => PySem.W.hideAll_get _ e (fun z => hb (List.mem_singleton.mp z))) f0 f1 f4 f5 f6, fun b o e hb => ?_, fun b o e hnf => ?_, .inr (.inr (by rw [hs]; exact hh4)), na, os, ag, w⟩
        · have hb2 : b ≠ s3.heap.objs.size := fun z => by
            rw [show PySem.W.hideAll sI.heap [s3.heap.objs.size] = _ from rfl, z, PySem.W.hideAll_none _ (List.mem_singleton.mpr rfl)] at e; cases e
          exact PySem.W.hideAll_get _ (nb b o (PySem.W.of_hideAll _ e) hb) fun z => hb2 (List.mem_singleton.mp z)
        · have hb2 : b ≠ s3.heap.objs.size := fun z => by
            rw [z, PySem.W.hideAll_none _ (List.mem_singleton.mpr rfl)] at e; cases e
          obtain ⟨sl, e1⟩ := up b o (PySem.W.of_hideAll _ e) hnf
          obtain ⟨sl2, e2⟩ := up1 b _ e1 hnf
          obtain ⟨sl3, e3⟩ := up4 b _ ((sb.2 b hb2).trans e2) hnf
          exact ⟨sl3, e3⟩
      first
        | exact wpAny_bind (wpAny_pure (wpAny_bind fin))
        | exact wpAny_bind fin
    unfold cPostX
    cases use <;> exact goal
  rcases sky' with ⟨hB, hn', hl, oe, vs, he, hz, hd, h1⟩ | fl | hh
  · exact HandSPX.look_newZ Zc.steady hfr hl hf he hB hn' hd h1 hz fin
  · exact HandSPX.looks_onZ Zc.steady hfr hf fl fin
  · exact look_otherZ Zc.steady hfr hf f1 hh fin
end
end L2

namespace L2
open PySem PySem.Spec PyProof.Rows PySem.HandSPX
section
variable {X : Cx}
theorem lc_coreX {pins : List (Addr × Obj)} {s : Shared} {σ : St} {H : Hp} {Q : VK} {elt tg iter : Expr} {ifs : List Expr} {scope : Scope} {own : List (Str × Nat)} {pos pos' : Pos} {wi : TI} {g : TG} {tt : TT} {te : TE} {use : Option (Value → Sem Unit)} {Qf : Value → Shared → Prop} {W : WX}
    (hst : X.stack = X.env :: X.outer) (hf : X.env.frame = some X.env.locals) (tk : Takes X W)
    (hc : X.calm = true) (hN : X.N.Nodup) (I : Inv X pins σ H s) (hi : PI X tg iter wi) (ok : BlkOk X.N X.env.scope scope own)
    (hg : ∀ (s : Shared) (H : Hp) (C : Addr) (cl : List (Str × Addr)) (fp : List Addr) (xe : Value → Shared → Prop), PG (X.blkX s H scope (compEnvC scope cl C X.env) fp xe) tg g)
    (ht : ∀ (s : Shared) (H : Hp) (C : Addr) (cl : List (Str × Addr)) (fp : List Addr) (xe : Value → Shared → Prop), PTs (X.blkX s H scope (compEnvC scope cl C X.env) fp xe) ifs tt)
    (he : ∀ (s : Shared) (H : Hp) (C : Addr) (cl : List (Str × Addr)) (fp : List Addr) (xe : Value → Shared → Prop), Takes (X.blkX s H scope (compEnvC scope cl C X.env) fp xe) (fun cls dx _ H' => W cls dx σ H') → PE (X.blkX s H scope (compEnvC scope cl C X.env) fp xe) elt te)
    (hs : ∀ x, foldedSetIterable iter X.env x = pure x)
    (h : tLc wi g tt te (own.map (·.2)) σ H Q)
    (hRR : ∀ D (ce : Env) s' m H', Inv X pins σ H' s' → Q (.ref D) H' → s'.heap.Ns ce.locals m → FpOk X pins H' ce.locals → cPostX (model X.prog X.w) X.A X.xe use Qf (.ref D) ce (.ok .next) s') :
    wpAny (model X.prog X.w) X.A (comprehension (.ListComp elt [⟨tg, iter, ifs, 0⟩] scope pos) scope X.env pos' (newList []) false (eval iter X.env) use) Qf X.xe s := by
  have hfree : ∀ y ∈ scope.names, y.2 = .free → ∃ c, X.env.cells.lookup y.1 = some c := fun y hy e => by
    rcases ok.free y hy e with k | k
    · exact I.ok.has _ (.inl k)
    · exact I.ok.has _ (.inr k)
  refine wpAny_comp_freeX (use := use) rfl hs (closure_ok hfree) ok.kind (fun y hy e => by rw [ok.uniq y hy, e])
    (thn (hi.run pins s σ H _ I h) fun xv s1 hx => thn hx fun itv s2 h2 => ?_)
  obtain ⟨it, fp, tn, J, H2, e, I2, T, st2, f2, q⟩ := h2
  subst e
  refine wpAny_newObj_type (newEnv_comp ?_) (by show 0 ≤ sizeLine; decide)
  generalize hD : s2.heap.objs.size = D
  have hDn : H2 D = none := I2.hok.fresh (Nat.le_of_eq hD)
  obtain ⟨W', ⟨m0, w0⟩, turn⟩ := q D hDn
  -- the new list
  generalize hs3 : ({ s2 with heap := s2.heap.push { cls := .type "list", data := .seq ([] : List Value).toArray } } : Shared) = s3
  have I3 : Inv X pins σ (upd H2 D (.lst [])) s3 := by
    rw [← hs3]
    refine I2.laid (t' := s2.toks) (fun b o e => Heap.get?_push_of_some _ e) (Nat.le_of_eq hD) ⟨Nat.zero_le _, [], 0, .nil, ?_⟩
    rw [← hD]
    exact Heap.get?_push_size _ rfl
  have h3 : s3.heap = s2.heap.push { cls := .type "list", data := .seq ([] : List Value).toArray } := by rw [← hs3]
  have sz : ∀ b ∈ fp, b < s2.heap.objs.size := fun b hb => by
    obtain ⟨o, e, _⟩ := T.obj _ _ st2 b hb
    exact Heap.lt_size e
  have f3 : ∀ b ∈ fp, FpOk X pins (upd H2 D (.lst [])) b ∧ b < s3.heap.objs.size := fun b hb => by
    have hlt := sz b hb
    refine ⟨⟨?_, (f2 b hb).2⟩, by rw [h3, Heap.size_push]; exact Nat.lt_succ_of_lt hlt⟩
    rw [upd_ne (by rw [← hD]; exact Nat.ne_of_lt hlt)]
    exact (f2 b hb).1
  have st3 : tn 0 s3.heap := T.keep _ _ _ st2 fun b _ o e => by rw [h3]; exact Heap.get?_push_of_some _ e
  have I4 := block_start I3 ok hN f3
  have tkb := fun (xe : Value → Shared → Prop) (u : Value) (s' : Shared) => @takes_blk X W hst hf tk σ pins (upd H2 D (.lst [])) s3 I3 scope (cellsFrom (s3.heap.objs.size + 1) scope.names (cloFrom X.env.cells scope.names [])) fp f3 use Qf (.ref D) xe u s'
  have pg := hg s3 (upd H2 D (.lst [])) s3.heap.objs.size (cellsFrom (s3.heap.objs.size + 1) scope.names (cloFrom X.env.cells scope.names [])) fp
  have pt := ht s3 (upd H2 D (.lst [])) s3.heap.objs.size (cellsFrom (s3.heap.objs.size + 1) scope.names (cloFrom X.env.cells scope.names [])) fp
  have pe := he s3 (upd H2 D (.lst [])) s3.heap.objs.size (cellsFrom (s3.heap.objs.size + 1) scope.names (cloFrom X.env.cells scope.names [])) fp
  show codeAny _ _ (.compStart (.ListComp elt [⟨tg, iter, ifs, 0⟩] scope pos) 0 (.ref it) (.ref D) (compEnvC scope (cellsFrom (s3.heap.objs.size + 1) scope.names (cloFrom X.env.cells scope.names [])) s3.heap.objs.size X.env)) (cPostX (model X.prog X.w) X.A X.xe use Qf (.ref D) (compEnvC scope (cellsFrom (s3.heap.objs.size + 1) scope.names (cloFrom X.env.cells scope.names [])) s3.heap.objs.size X.env)) { s3 with heap := pushCells (s3.heap.push { cls := .type "dict", data := .dict #[] }) scope.names }
  have nfp : ∀ b ∈ fp, (upd H2 D (.lst [])) b = none := fun b hb => (f3 b hb).1.1
  generalize hce : compEnvC scope (cellsFrom (s3.heap.objs.size + 1) scope.names (cloFrom X.env.cells scope.names [])) s3.heap.objs.size X.env = ce at I4 pg pt pe tkb ⊢
  have cL : ce.locals = s3.heap.objs.size := by subst hce; rfl
  generalize hH3 : upd H2 D (.lst []) = H3 at I3 I4 pg pt pe w0 nfp f3 tkb
  generalize hs4 : ({ s3 with heap := pushCells (s3.heap.push { cls := .type "dict", data := .dict #[] }) scope.names } : Shared) = s4 at I4 ⊢
  generalize hxe : (notedBy (model X.prog X.w) X.A ce fun e s' => cPostX (model X.prog X.w) X.A X.xe use Qf (.ref D) ce (.error e) s') = xe
  have I4 : Inv (X.blkX s3 H3 scope ce fp xe) [] (wipe σ (own.map (·.2))) H3 s4 := I4.withX
  have pg := pg xe
  have pt := pt xe
  have pe := pe xe fun u s' x => by
    have z := tkb xe u s' x
    show xe u s'
    rw [← hxe]
    exact z
  have st4 : tn 0 s4.heap := T.keep _ _ _ st3 fun b _ o e => by rw [← hs4]; exact pushCells_keeps _ _ _ _ (Heap.get?_push_of_some _ e)
  have stat : ∀ {σ' : St} {H' : Hp} {s' : Shared}, Inv (X.blkX s3 H3 scope ce fp xe) [] σ' H' s' → (∀ b ∈ fp, H' b = none) → ∀ b ∈ fp, FpOk (X.blkX s3 H3 scope ce fp xe) [] H' b := fun {σ' H' s'} I' hn b hb =>
    ⟨hn b hb, (I'.ok.exf b hb).1, I'.ok.exfs b hb, .inl hb, fun x c e => (I'.ok.exf b hb).2 x c e, fun p hp => absurd (show p ∈ ([] : List (Addr × Obj)) ++ [] from hp) (by simp)⟩
  have loop : codeAny (model X.prog X.w) X.A (.compLoop (.ListComp elt [⟨tg, iter, ifs, 0⟩] scope pos) 0 (.ref it) (.ref D) ce) (cPostX (model X.prog X.w) X.A X.xe use Qf (.ref D) ce) s4 := by
    refine compLoop_any (fun n s' => ∃ i H', Inv (X.blkX s3 H3 scope ce fp xe) [] (wipe σ (own.map (·.2))) H' s' ∧ tn i s'.heap ∧ (∀ b ∈ fp, H' b = none) ∧ W' i n H') ?_ m0 ⟨0, H3, I4, st4, nfp, w0⟩
    rw [hxe]
    rintro n s5 ⟨i, H5, I5, st5, n5, w5⟩
    rcases turn i n H5 w5 with ⟨stop, qq⟩ | ⟨go, Nx, hNx, step⟩
    · have td := T.done (X.blkX s3 H3 scope ce fp xe) rfl rfl rfl hc i [] s5 _ H5 (fun _ _ => False) I5 (stat I5 n5) st5 stop
      refine thnF td fun r s6 ⟨hr, I6⟩ => ?_
      subst hr
      -- back in the def's context
      have I7 : Inv X pins σ H5 s6 := I3.call' (ch := fp) I6.os I6.base I6.hok I6.bare fun b hb => ⟨(f3 b hb).1.2.2.2.1, (f3 b hb).1.2.1, (f3 b hb).1.2.2.2.2.1, (f3 b hb).1.2.2.2.2.2⟩
      have nC : H5 ce.locals = none := I6.free
      obtain ⟨m, hn, _⟩ := I6.loc
      have hn : s6.heap.Ns ce.locals m := hn
      exact hRR D ce s6 m H5 I7 qq hn (I3.fpOk (Nat.le_of_eq cL.symm) nC)
    · have ti := T.item (X.blkX s3 H3 scope ce fp xe) rfl rfl rfl hc i [] s5 _ H5 (fun _ _ => False) I5 (stat I5 n5) st5 go
      refine thnF ti fun r s6 ⟨u, hr, h6⟩ => ?_
      subst hr
      refine thnF h6 fun _ s7 ⟨x, H7, I7, r7, y7, st7, n7⟩ => ?_
      have I7' := I7.pinned (stat I7 n7) (T.obj _ _ st7)
      refine thn (pg.run _ s7 _ H7 x u _ I7' r7 (step x H7 y7)) fun _ s8 ⟨σ8, H8, I8, hw8, q8⟩ => ?_
      refine thn (pt.run _ s8 σ8 H8 _ I8 q8) fun b s9 ⟨H9, I9, q9⟩ => ?_
      -- the turn's end
      have fin : ∀ {s' : Shared} {H' : Hp}, Inv (X.blkX s3 H3 scope ce fp xe) ([] ++ pinsAt fp s7.heap) σ8 H' s' → Nx H' → ∃ m, m < n ∧ ∃ i H', Inv (X.blkX s3 H3 scope ce fp xe) [] (wipe σ (own.map (·.2))) H' s' ∧ tn i s'.heap ∧ (∀ b ∈ fp, H' b = none) ∧ W' i m H' := fun {s' H'} I' nx => by
        obtain ⟨m', hm, w'⟩ := hNx H' nx
        have pin' : ∀ b ∈ fp, ∀ o, s7.heap.get? b = some o → s'.heap.get? b = some o ∧ H' b = none := fun b hb o e =>
          let z := I'.pin (b, o) (List.mem_append_right _ (List.mem_append_right _ (mem_pinsAt hb e)))
          ⟨z.1, z.2.1⟩
        have hl : (wipe σ (own.map (·.2))).length = σ8.length := by rw [← hw8, wipe_length]
        refine ⟨m', hm, i + 1, H', (I'.unpinned (pins := [])).weak hl (fun j v e => ?_), T.keep _ _ _ st7 fun b hb o e => (pin' b hb o e).1, fun b hb => ?_, w'⟩
        · rw [← hw8] at e
          exact (wipe_some e).1
        · obtain ⟨o, e, _⟩ := T.obj _ _ st7 b hb
          exact (pin' b hb o e).2
      cases b with
      | false =>
        simp only [Bool.false_eq_true, if_false] at q9 ⊢
        exact fin I9 q9
      | true =>
        simp only [if_true] at q9 ⊢
        refine thn (pe.run _ s9 σ8 H9 _ I9 q9) fun z s10 ⟨yv, H10, I10, r10, acc, hD10, hz10, nx⟩ => ?_
        exact app_ok (X := X.blkX s3 H3 scope ce fp xe) I10 hD10 hz10 r10 fun s11 I11 => fin I11 nx
  exact codeAny_compStart_list loop (T.self X.A 0 _ _ _ st4 loop)
end
end L2
namespace Gb
open PySem PySem.Spec L2
def compLX (dg : DG) (dt : DT) (de : DE) (own : List Nat) (b : Bool) : List D → List T → ER (List D)
  | [], ρ => .ok [] ρ
  | d :: ds, ρ => match dg (.imm b d) ρ with
    | none => .bad
    | some ρ1 => match dt ρ1 with
      | .ok true ρ2 => match de ρ2 with
        | .ok t ρ3 => match t.frz with
          | some (false, e) => match compLX dg dt de own b ds (killL own ρ3) with
            | .ok r ρ4 => .ok (e :: r) ρ4
            | .exc x ρ4 => .exc x ρ4
            | .bad => .bad
          | _ => .bad
        | .exc x ρ3 => .exc x (killL own ρ3)
        | .bad => .bad
      | .ok false ρ2 => compLX dg dt de own b ds (killL own ρ2)
      | _ => .bad
def endX (own : List Nat) (acc : List D) : ER (List D) → ER T
  | .ok r ρ2 => .ok (.lstI (acc ++ r)) (killL own ρ2)
  | .exc x ρ2 => .exc x (killL own ρ2)
  | .bad => .bad
def dLcX (own : List Nat) (dg : DG) (di : DI) (dt : DT) (de : DE) : DE := fun ρ => match di ρ with
  | .ok p ρ1 => endX own [] (compLX dg dt de own p.1 p.2 (killL own ρ1))
  | .exc e ρ1 => .exc e ρ1
  | .bad => .bad
structure BlkX (X : Cx) (ca : Cad) (W : WX) (scope : Scope) (own : List (Str × Nat)) (ch : List Nat) (tg elt : Expr) (ifs : List Expr) (dg : DG) (dt : DT) (de : DE) : Prop where
  ok : BlkOk X.N X.env.scope scope own
  nd : X.N.Nodup
  g : ∀ (s : Shared) (H : Hp) (C : Addr) (cl : List (Str × Addr)) (fp : List Addr) (xe : Value → Shared → Prop), SG (X.blkX s H scope (compEnvC scope cl C X.env) fp xe) ca ch tg dg
  t : ∀ (s : Shared) (H : Hp) (C : Addr) (cl : List (Str × Addr)) (fp : List Addr) (xe : Value → Shared → Prop), STs (X.blkX s H scope (compEnvC scope cl C X.env) fp xe) ca WF ifs dt
  e : ∀ (σ0 : L2.St) (s : Shared) (H : Hp) (C : Addr) (cl : List (Str × Addr)) (fp : List Addr) (xe : Value → Shared → Prop), Takes (X.blkX s H scope (compEnvC scope cl C X.env) fp xe) (fun cls dx _ H' => W cls dx σ0 H') →
    SE (X.blkX s H scope (compEnvC scope cl C X.env) fp xe) ca (fun cls dx _ H' => W cls dx σ0 H') elt de
  ch : ∀ i ∈ ch, i ∈ own.map (·.2)
section
variable {C : Ct} {W : WX} {pn ch : List Nat} {w w' : Wd} {H H' : Hp} {σ σ' : L2.St} {X : Cx} {ca : Cad} {ρ : List T} {t u : T} {v x : Option V}
theorem lcTX {dg : DG} {di : DI} {dt : DT} {de : DE} {vs : List Nat} (hch : ∀ i ∈ ch, i ∈ vs) {Q : VK} (h : tE C W (dLcX vs dg di dt de) σ H Q) :
    tLc (tI C W di) (tG C ch dg) (tT C WF dt) (tE C (fun cls dx _ H' => W cls dx σ H') de) vs σ H Q := by
  obtain ⟨w, ρ, S, k⟩ := h
  refine ⟨w, ρ, S, ?_⟩
  unfold dLcX at k
  cases e : di ρ with
  | bad => rw [e] at k; exact k
  | exc x ρ1 => rw [e] at k; exact k
  | ok p ρ1 =>
    simp only [e] at k
    obtain ⟨b, ds⟩ := p
    intro w1 H1 J A1 S1 wk
    have wk : Walk C w1 H1 J b ds := wk
    intro Dp hD
    have k1 : kE C W w1 H1 σ Q (endX vs [] (compLX dg dt de vs b ds (killL vs ρ1))) := kE.after A1 k
    obtain ⟨A2, S2⟩ := (S1.forget chg_wipe : Stt C w1 H1 (killL vs ρ1) (wipe σ vs)).newL (ds := []) (vs := []) rfl hD
    refine ⟨fun i m H' => m = ds.length - i ∧ i ≤ ds.length ∧ ∃ w' ρ' acc, acc.length ≤ i ∧ After w1 H1 w' H' ∧ Stt C w' H' (.lstI acc :: ρ') (some (.ref Dp) :: wipe σ vs) ∧
      kE C W w' H' σ Q (endX vs acc (compLX dg dt de vs b (ds.drop i) ρ')),
      ⟨ds.length, by simp, Nat.zero_le _, w1, _, [], Nat.le_refl _, A2, S2, by simpa using kE.after A2 k1⟩, ?_⟩
    rintro i m H2 ⟨rfl, hi, w2, ρ2, acc, hacc, A3, S3, k2⟩
    by_cases hl : i < ds.length
    · refine .inr ⟨wk.go i w2 H2 hl A3, fun H' => ∃ w' ρ' acc, acc.length ≤ i + 1 ∧ After w1 H1 w' H' ∧ Stt C w' H' (.lstI acc :: ρ') (some (.ref Dp) :: wipe σ vs) ∧
        kE C W w' H' σ Q (endX vs acc (compLX dg dt de vs b (ds.drop (i + 1)) ρ')), fun H' z => ⟨ds.length - (i + 1), by omega, rfl, hl, z⟩, fun x H3 y => ?_⟩
      have hd' : ds[i]? = some ds[i] := List.getElem?_eq_getElem hl
      obtain ⟨w3, A4, S4⟩ := wk.yld i _ w2 H2 _ _ x H3 hd' A3 S3 y
      obtain ⟨x', ex, rx⟩ := S4.head_imm
      cases ex
      obtain ⟨wt, eI, eB, S5, back⟩ := S4.drop.push
      have rx' : RD C H3 (wt.im b) ds[i] x := by
        have : wt.im b = w3.im b := by unfold Wd.im; rw [eI, eB]
        rw [this]; exact rx
      rw [List.drop_eq_getElem_cons hl] at k2
      unfold compLX at k2
      cases eg : dg (.imm b ds[i]) ρ2 with
      | none => simp only [eg] at k2; exact k2.elim
      | some ρ3 =>
        simp only [eg] at k2
        refine ⟨wt, ρ2, _, ρ3, S5.cons_imm rx', eg, fun w6 H6 σ6 A6 S6 c6 => ⟨wipe_chg c6 hch, w6, ρ3, S6, ?_⟩⟩
        cases et : dt ρ3 with
        | bad => simp only [et] at k2; exact k2.elim
        | exc z ρ4 => simp only [et] at k2; exact k2.elim
        | ok bt ρ4 =>
          cases bt with
          | false =>
            simp only [et] at k2
            intro w7 H7 A7 S7
            rw [if_neg (by simp)]
            obtain ⟨w8, _, A8, S8⟩ := back _ _ _ _ (A6.trans A7) S7
            have c6' : Chg vs σ6 (wipe σ vs) := by
              rw [← wipe_chg c6 hch]; exact chg_wipe
            refine ⟨w8, killL vs ρ4, acc, by omega, A3.trans (A4.trans A8), ?_, kE.after (A4.trans A8) k2⟩
            exact S8.forgetTail c6'
          | true =>
            simp only [et] at k2
            intro w7 H7 A7 S7
            rw [if_pos rfl]
            refine ⟨w7, ρ4, S7, ?_⟩
            have c6' : Chg vs σ6 (wipe σ vs) := by
              rw [← wipe_chg c6 hch]; exact chg_wipe
            cases ee : de ρ4 with
            | bad => simp only [ee] at k2; exact k2.elim
            | exc z ρ5 =>
              simp only [ee] at k2
              intro w8 H8 cls dx A8 S8 x8
              obtain ⟨w10, e10, A10, S10⟩ := back _ _ _ _ (A6.trans (A7.trans A8)) S8
              have S11 := ((S10.forgetTail c6').forgetTail chg_wipe.symm).drop
              exact kE.after (A4.trans A10) k2 w10 H8 cls dx .refl S11 (x8.I e10)
            | ok t5 ρ5 =>
              simp only [ee] at k2
              intro w8 H8 y8 A8 S8
              cases ef : t5.frz with
              | none => simp only [ef] at k2; exact k2.elim
              | some q =>
                obtain ⟨bq, dq⟩ := q
                cases bq with
                | true => simp only [ef] at k2; exact k2.elim
                | false =>
                  simp only [ef] at k2
                  obtain ⟨w9, A9, S9⟩ := S8.freeze ef
                  obtain ⟨w10, e10, A10, S10⟩ := back _ _ _ _ (A6.trans (A7.trans (A8.trans A9))) S9
                  obtain ⟨p10, vs10, ep, hp, rds⟩ := S10.head_lstI
                  cases ep
                  obtain ⟨y', ey, ry⟩ := S9.head_imm
                  cases ey
                  have ry' : RD C H8 w10.I dq y8 := by rw [e10]; exact ry.false
                  obtain ⟨A11, S11⟩ := S10.drop2.wr (ds' := acc ++ [dq]) (vs' := vs10 ++ [y8]) (rds.append ⟨y8, [], rfl, ry', rfl⟩)
                  refine ⟨vs10, hp, ?_, w10, killL vs ρ5, acc ++ [dq], by simp; omega, A3.trans (A4.trans (A10.trans A11)), S11.forgetTail c6', ?_⟩
                  · rw [← rds.length]
                    have := wk.line
                    omega
                  · have k3 := kE.after (A4.trans (A10.trans A11)) k2
                    cases ec : compLX dg dt de vs b (ds.drop (i + 1)) (killL vs ρ5) with
                    | bad => simp only [ec] at k3; exact k3.elim
                    | exc z ρ6 => simp only [ec] at k3 ⊢; exact k3
                    | ok r ρ6 =>
                      simp only [ec, endX] at k3 ⊢
                      rw [List.append_assoc]
                      exact k3
    · have e : i = ds.length := by omega
      subst e
      refine .inl ⟨wk.stop w2 H2 A3, ?_⟩
      simp [compLX, endX] at k2
      exact k2 w2 H2 _ .refl (S3.forgetTail chg_wipe.symm)
theorem ss_setLcX {i : Nat} {y : Str} {py : Pos} {elt tg iter : Expr} {ifs : List Expr} {scope : Scope} {own : List (Str × Nat)} {pos spos : Pos} {dg : DG} {di : DI} {dt : DT} {de : DE} (hst : X.stack = X.env :: X.outer) (hf : X.env.frame = some X.env.locals) (tk : Takes X W) (hc : X.calm = true) (hi : SI X ca W tg iter di) (B : BlkX X ca W scope own ch tg elt ifs dg dt de)
    (hy : X.N[i]? = some y := by rfl) (hyl : X.env.scope.names.lookup y = some .local := by rfl) (hk : X.env.scope.kind = .function := by rfl) (hl : (py.line == pos.line) = true := by rfl) (ha : (scope.names.any fun (n, k) => n == y && (k == .local || k == .cell)) = false := by decide +kernel) (hp : i ∉ pn := by decide)
    (hs : ∀ x, foldedSetIterable iter X.env x = pure x := by intro _; rfl) : SS X ca W pn (.Assign [.Name y py] (.ListComp elt [⟨tg, iter, ifs, 0⟩] scope pos) spos) (dSet i (dLcX (own.map (·.2)) dg di dt de)) := by
  refine ⟨⟨fun pins s σ H En I q => ?_⟩⟩
  have hsw := @sw_true elt [⟨tg, iter, ifs, 0⟩] scope pos py y spos.line X.env hk hyl hl ha
  rw [exec_Assign_Name_used _ _ _ _ hsw]
  refine wpAny_bind (wpAny_standAt (wpAny_bind ?_))
  show wpAny _ X.A (do let _ ← comprehension (.ListComp elt [⟨tg, iter, ifs, 0⟩] scope pos) scope X.env (firstIterPos [⟨tg, iter, ifs, 0⟩] pos) (newList []) false (eval iter X.env) (some (assign (.Name y py) X.env))) _ _ s
  have l := I.len
  have h := lcTX (W := W) B.ch (setS q (by rw [l]; exact (List.getElem?_eq_some_iff.mp hy).1) hp)
  refine wpAny_bind (thn (lc_coreX (Qf := fun _ s' => SP X pins En .next s') hst hf tk hc B.nd I hi.pi B.ok (fun s H C cl fp xe => (B.g s H C cl fp xe).pg) (fun s H C cl fp xe => (B.t s H C cl fp xe).pts) (fun s H C cl fp xe t => (B.e σ s H C cl fp xe t).pe) hs h fun L ce s' m H' I' q hn f => ?_) fun _ s' hq => wpAny_pure (wpAny_pure hq))
  show wpAny _ _ (assign (.Name y py) X.env (.ref L)) _ _ _
  refine wpAny_assign_Name (store_ok2 (v := V.ref L) I' B.nd hy (.inl hyl) rfl (fun s2 I2 ⟨a, sb, ha⟩ => ?_) (.inr hyl))
  obtain ⟨f0, f1, f2, f3, f4, f5⟩ := f
  have haC : ce.locals ≠ a := by
    rcases ha with z | z
    · rw [z]; exact f1
    · exact fun e => f4 y a z e.symm
  refine ⟨m, hn.sameBut sb haC, fun h3 sb3 => ?_⟩
  exact ⟨_, H', I2.turned (t' := s2.toks) (fun b o hb e => (sb3.2 b hb).trans e) f0 f1 f3 f4 f5, q⟩
end
end Gb

namespace Gb
open PySem PySem.Spec L2
section
variable {dg : DG} {dt : DT} {de : DE} {di : DI} {own : List Nat} {b : Bool} {ds : List D} {ρ : List T}
def lckX (own : List Nat) (dg : DG) (dt : DT) (de : DE) : Bool × List D → List T → ER T := fun p ρ => endX own [] (compLX dg dt de own p.1 p.2 (killL own ρ))
theorem v_LcX : dLcX own dg di dt de ρ = bnd (di ρ) (lckX own dg dt de) := by
  unfold dLcX bnd ER.bind lckX
  cases di ρ <;> rfl
theorem v_lckX : lckX own dg dt de (b, ds) ρ = endX own [] (compLX dg dt de own b ds (killL own ρ)) := rfl
theorem v_endX : endX own [] (.ok ds ρ) = .ok (.lstI ds) (killL own ρ) := rfl
theorem v_endX_exc {x : Ex} {acc : List D} : endX own acc (.exc x ρ) = .exc x (killL own ρ) := rfl
/-- no turn raises -/
theorem compLX_of_ok : ∀ {ds : List D} {ρ ρ' : List T} {r : List D}, compL dg dt de own b ds ρ = .ok r ρ' → compLX dg dt de own b ds ρ = .ok r ρ'
  | [], ρ, ρ', r, h => by
    unfold compL at h
    unfold compLX
    exact h
  | d :: ds, ρ, ρ', r, h => by
    unfold compL at h
    unfold compLX
    cases e1 : dg (.imm b d) ρ with
    | none => rw [e1] at h; cases h
    | some ρ1 =>
      simp only [e1] at h ⊢
      cases e2 : dt ρ1 with
      | bad => rw [e2] at h; cases h
      | exc x ρ2 => rw [e2] at h; cases h
      | ok bt ρ2 =>
        cases bt with
        | false =>
          simp only [e2] at h ⊢
          exact compLX_of_ok h
        | true =>
          simp only [e2] at h ⊢
          cases e3 : de ρ2 with
          | bad => rw [e3] at h; cases h
          | exc x ρ3 => rw [e3] at h; cases h
          | ok t ρ3 =>
            simp only [e3] at h ⊢
            cases e4 : t.frz with
            | none => rw [e4] at h; cases h
            | some p =>
              obtain ⟨c, e⟩ := p
              cases c with
              | true => simp only [e4] at h; cases h
              | false =>
                simp only [e4] at h ⊢
                cases e5 : compL dg dt de own b ds (killL own ρ3) with
                | bad => rw [e5] at h; cases h
                | exc x ρ4 => rw [e5] at h; cases h
                | ok r4 ρ4 =>
                  rw [e5] at h
                  rw [compLX_of_ok e5]
                  exact h
end
end Gb

namespace L2
open PySem PySem.Spec PyProof.Rows
open Builtin
/-! enumerate(tuple) -/
section
variable {prog : Program} {w : World} {A : Around} {E : Value → Shared → Prop} {s : Shared}
theorem meets_enumerate_new1 {v : Value} {o : Obj} {H : Heap → Prop} (B : PySem.Begins v o H) :
    Meets (Builtin.«enumerate.__new__» ⟨[.type "enumerate", v], []⟩) (fun _ R s => H s.heap ∧
      R (.ok (.ret (.ref (s.heap.push o).objs.size))) { s with heap := (s.heap.push o).push { cls := .type "enumerate", data := .fields #[.none, .bool false, .ref s.heap.objs.size, rawInt 0, .none, .none] } }) :=
  .of_wp fun prog w A R s h => by
    obtain ⟨hp, g, d, tk, os⟩ := s; obtain ⟨h1, h⟩ := h
    have hsub := sub_enumerate
    have q1 : ∀ {A' : Around} {E : Value → Shared → Prop} {Q : Value → Shared → Prop}, Q (.ref hp.objs.size) ⟨hp.push o, g, d, tk, os⟩ → wpAny (model prog w) A' (pyIter v) Q E ⟨hp, g, d, tk, os⟩ :=
      fun q => B.iter prog w _ _ ⟨hp, g, d, tk, os⟩ _ h1 q
    wp_walk using q1
    refine wpAny_stack_any fun st => wpAny_pure ?_
    split
    · rename_i c _ _ _ _ _
      cases (c == Value.type "enumerate")
      · wp_walk using q1
        exact ⟨_, rfl, h⟩
      · wp_walk using q1
        exact ⟨_, rfl, h⟩
    · wp_walk using q1
      exact ⟨_, rfl, h⟩
theorem call_enumerate_tuple {l : Addr} {items : Array Value} {Q : Value → Shared → Prop} (hL : s.heap.IsTuple l items)
    (h : ∀ h', IsEnum h' (s.heap.objs.size + 1) s.heap.objs.size 0 .none → h'.IsTupleIter s.heap.objs.size l 0 → h'.objs.size = s.heap.objs.size + 2 →
      (∀ b o, s.heap.get? b = some o → h'.get? b = some o) → Q (.ref (s.heap.objs.size + 1)) { s with heap := h' }) :
    wpAny (model prog w) A (call (.type "enumerate") [.ref l]) Q E s := by
  refine callType_new F.called_enumerate (by decide) (F.typeCall_enumerate_1 _) (F.newCall_enumerate_1 _) (fun obj => F.args_object_init_2 obj _) F.entry_enumerate_new
    (meets_enumerate_new1 (PySem.begins_tuple l items)) ⟨hL, ?_⟩
  have hz : (s.heap.push { cls := .type "tuple_iterator", data := .fields #[.ref l, .int 0 0] }).objs.size = s.heap.objs.size + 1 := Heap.size_push ..
  show _ ∧ _
  rw [hz]
  have he : IsEnum ((s.heap.push { cls := .type "tuple_iterator", data := .fields #[.ref l, .int 0 0] }).push
      { cls := .type "enumerate", data := .fields #[.none, .bool false, .ref s.heap.objs.size, rawInt 0, .none, .none] }) (s.heap.objs.size + 1) s.heap.objs.size 0 .none := by
    have := Heap.get?_push_size (s.heap.push { cls := .type "tuple_iterator", data := .fields #[.ref l, .int 0 0] })
      (o := { cls := .type "enumerate", data := .fields #[.none, .bool false, .ref s.heap.objs.size, rawInt 0, .none, .none] }) rfl
    rw [hz] at this; exact this
  refine ⟨⟨_, he, rfl⟩, h _ he ⟨_, Heap.get?_push_of_some _ (Heap.get?_push_size _ rfl), rfl, rfl⟩ (by rw [Heap.size_push, hz]) fun b o x => Heap.get?_push_of_some _ (Heap.get?_push_of_some _ x)⟩
theorem enum_endT {e it l : Addr} {i : Nat} {items : Array Value} {old : Value} {Q : Option Value → Shared → Prop} (hh : A.handled = none)
    (he : IsEnum s.heap e it i old) (hit : s.heap.IsTupleIter it l i) (hl : s.heap.IsTuple l items) (hx : items[i]? = none)
    (hQ : ∀ h', Heap.ExtBut it s.heap h' → Q none { s with heap := h' }) : wpAny (model prog w) A (pyNext (.ref e)) Q E s := by
  have hT : s.TypeIs (.ref e) "enumerate" := ⟨_, he, rfl⟩
  unfold pyNext
  refine wpAny_bind (wpAny_attempt (wpAny_callSpecial?_slot (name := Str.ofString "__next__") hT F.slot_enumerate_next
    (wpAny_call_entry F.slot_enumerate_next hT F.entry_enumerate_next ?_ (F.args_enumerate_next_1 _))))
  show wpAny _ _ (field (.ref e) 2 >>= _) _ _ _
  refine wpAny_bind (wpAny_field he rfl (x := .ref it) rfl ?_)
  refine wpAny_bind (PySem.wpAny_nextOf_tuple_end hh hit hl hx fun h' x he' hx' => ?_)
  obtain ⟨o, ho, hc⟩ := hx'
  refine wpAny_bind (wpAny_isInstance (T := "StopIteration") (b := true) ⟨o, ho, hc⟩ isSubtype_stop ?_)
  exact wpAny_pure (hQ _ he')
end
/-- the tuple at a as it stands at each turn, each item in a new pair -/
def ItetT (K : PySem.W.Frag) (a : Addr) : It :=
  ⟨fun i H => ∃ (xs : List V) (x : V), SqT K H a xs ∧ xs[i]? = some x, fun i H v H' => ∃ T x, v = .ref T ∧ H T = none ∧ H' = upd H T (.tup [.int (i : Nat), x]) ∧ ∀ xs, SqT K H a xs → xs[i]? = some x, fun i H => ∃ xs : List V, SqT K H a xs ∧ xs.length ≤ i⟩
theorem tup_inj {X : Cx} {pins : List (Addr × Obj)} {σ : St} {H : Hp} {s : Shared} {a : Addr} {xs ys : List V} (I : Inv X pins σ H s) (h : SqT X.K H a xs) (h' : SqT X.K H a ys) : xs = ys := by
  obtain ⟨its, r, ⟨o, e, _, n, d⟩, _⟩ := I.tuple h
  obtain ⟨its', r', ⟨o', e', _, n', d'⟩, _⟩ := I.tuple h'
  rw [e] at e'; cases e'
  rw [d] at d'
  injection d' with d1 _
  have : its = its' := by simpa using congrArg Array.toList d1
  subst this
  exact r.inj r'
theorem turn_enumT {P : Program} {w : World} {K : PySem.W.Frag} {elts : List Expr} {kk : Nat} {tpos : Pos} (a e it : Addr) :
    Turn P w K (.Tuple elts kk tpos) (ItetT K a) [e, it] e (fun i h => (∃ old, IsEnum h e it ((i : Nat) : Int) old) ∧ h.IsTupleIter it a i ∧ e ≠ it) where
  mem := by simp
  obj := fun i h st b hb => by
    obtain ⟨⟨old, he⟩, ⟨o, ho, hc, hd⟩, _⟩ := st
    have e' : b = e ∨ b = it := by simpa using hb
    rcases e' with z | z
    · rw [z]; exact ⟨_, he, fun v q => nomatch q⟩
    · rw [z]; exact ⟨o, ho, fun v q => by rw [hd] at q; cases q⟩
  keep := fun i h h' st k => let ⟨⟨old, he⟩, hi, hne⟩ := st; ⟨⟨old, k e (by simp) _ he⟩, hi.at fun o q => k it (by simp) o q, hne⟩
  item := by
    intro X hP hw hK hc i pins s σ H E I hf st hg
    subst hP hw hK
    obtain ⟨⟨old, he⟩, hit, hne⟩ := st
    obtain ⟨xs, x, hq, hx⟩ := hg
    obtain ⟨its, rv, p, hz⟩ := I.tuple hq
    obtain ⟨u, hu, ru⟩ := rv.get hx
    have hel : e < s.heap.objs.size := Heap.lt_size he
    have hil : it < s.heap.objs.size := by obtain ⟨_, q, _⟩ := hit; exact Heap.lt_size q
    have hai : a ≠ it := fun z => by
      obtain ⟨o, ho, hcl, _⟩ := p
      obtain ⟨o', ho', hcl', _⟩ := hit
      rw [z, ho'] at ho
      cases ho
      rw [hcl'] at hcl
      exact absurd (Value.type.inj hcl) (by decide)
    have hae : e ≠ a := fun z => by
      obtain ⟨o, ho, hcl, _⟩ := p
      have he' : s.heap.get? e = _ := he
      rw [z, ho] at he'
      cases he'
      exact absurd (Value.type.inj hcl) (by decide)
    have hlt : i < its.toArray.size := by
      have := (List.getElem?_eq_some_iff.mp hu).1
      simpa using this
    refine PySem.wpAny_pyNext_enum_itemD (PySem.Draws.tuple (show X.A.in1.handled = none from I.ok.hd hc) it a hai its.toArray) he ⟨hit, p⟩ hlt hne (by simp; exact ⟨hne, hae⟩) fun x' h' tk hx' ho st' hT hsz hk => ?_
    have hxu : x' = u := by
      have e1 : its[i]? = some x' := by simpa using hx'
      rw [hu] at e1
      exact (Option.some.inj e1).symm
    subst hxu
    obtain ⟨hit', _⟩ := st'
    refine ⟨_, rfl, wpAny_letOwnedTupleGo_enum (s := { s with heap := h', toks := tk + 1 }) ho fun h'' he' sb => ?_⟩
    have hT2 : h''.get? s.heap.objs.size = some { cls := .type "tuple", data := .seq #[.int i tk, x'] } := (sb.2 _ (Nat.ne_of_gt hel)).trans hT
    have new : ObjOk X.prog X.w (upd H s.heap.objs.size (.tup [.int (i : Nat), x])) h'' s.heap.objs.size (.tup [.int (i : Nat), x]) :=
      ⟨by show 2 ≤ sizeLine; decide, [.int i tk, x'], .cons ⟨_, rfl⟩ (.cons ru .nil), ⟨_, hT2, rfl, _, rfl⟩⟩
    have I1 : Inv X pins σ (upd H s.heap.objs.size (.tup [.int (i : Nat), x])) { s with heap := h'', toks := tk + 1 } :=
      I.turnedNew (ch := [e, it]) (fun b ob hb q => (sb.2 b (fun z => hb (by simp [z]))).trans (hk b ob (fun z => hb (by simp [z])) (fun z => hb (by simp [z])) q)) hf (Nat.le_refl _) new
    refine ⟨.ref s.heap.objs.size, _, I1, rfl, ⟨_, x, rfl, I.hok.fresh (Nat.le_refl _), rfl, fun ys hy => by rw [tup_inj I hy hq]; exact hx⟩, ⟨⟨x', ?_⟩, hit'.at fun o q => (sb.2 it (Ne.symm hne)).trans q, hne⟩, fun b hb => ?_⟩
    · have e1 : ((i + 1 : Nat) : Int) = (i : Int) + 1 := by omega
      rw [e1]; exact he'
    · have hb' : b < s.heap.objs.size := by
        have e' : b = e ∨ b = it := by simpa using hb
        rcases e' with z | z
        · rw [z]; exact hel
        · rw [z]; exact hil
      rw [upd_ne (Nat.ne_of_lt hb')]
      exact (hf b hb).1
  done := by
    intro X hP hw hK hc i pins s σ H E I hf st hg
    subst hP hw hK
    obtain ⟨⟨old, he⟩, hit, hne⟩ := st
    obtain ⟨xs, hq, hx⟩ := hg
    obtain ⟨its, rv, p, hz⟩ := I.tuple hq
    obtain ⟨f0, f1, f2, f3, f4, f5⟩ := hf it (by simp)
    have hl := rv.length
    exact enum_endT (I.ok.hd hc) he hit p (by simp; omega) fun h' eb => ⟨rfl, I.turned (t' := s.toks) (fun b o hb q => eb b o hb q) f0 f1 f3 f4 f5⟩
  self := fun A i s Q E st h => let ⟨⟨_, he⟩, _⟩ := st; wpAny_pyIter_enum he h
def iEnumT (K : PySem.W.Frag) (ta : TA) : TI := fun σ H R => ta σ H fun vs H1 => ∃ a xs, vs = [.ref a] ∧ SqT K H1 a xs ∧ R (ItetT K a) H1
theorem pi_enumT {X : Cx} {e : Expr} {ta : TA} {p pos tpos : Pos} {elts : List Expr} {kk : Nat} (hg : Gl X "enumerate") (hm : X.mg "enumerate" = none) (ha : PA X [e] ta) (hs : starEach [e] X.env = [(false, eval e X.env)] := by rfl) :
    PI X (.Tuple elts kk tpos) (.Call (.Name "enumerate" p) [e] [] pos) (iEnumT X.K ta) := by
  refine ⟨fun pins s σ H R I h => ?_⟩
  refine Call_ (ld_blt I hg hm boot_enumerate (PyProof.Rows.callWith_type1 (thn (ha.run pos pins s σ H _ I h) fun us s1 ⟨vs, H1, I1, r1, q1⟩ => ?_) hs rfl))
  obtain ⟨a, xs, ex, hq, q⟩ := q1
  subst ex
  cases r1 with
  | cons r rr =>
    cases rr
    cases r
    obtain ⟨its, rv, p', hz⟩ := I1.tuple hq
    refine call_enumerate_tuple p' fun h' he hit hsz hk => wpAny_pyIter_enum he ?_
    have I2 : Inv X pins σ H1 { s1 with heap := h' } := I1.kept (t' := s1.toks) hk
    refine ⟨s1.heap.objs.size + 1, [s1.heap.objs.size + 1, s1.heap.objs.size], _, _, H1, rfl, I2, turn_enumT a (s1.heap.objs.size + 1) s1.heap.objs.size, ⟨⟨.none, he⟩, hit, Nat.succ_ne_self _⟩, fun b hb => ?_, q⟩
    have e' : b = s1.heap.objs.size + 1 ∨ b = s1.heap.objs.size := by simpa using hb
    have hle : s1.heap.objs.size ≤ b := by
      rcases e' with z | z
      · rw [z]; exact Nat.le_add_right _ _
      · rw [z]; exact Nat.le_refl _
    exact I1.fpOk hle (I1.hok.fresh hle)
end L2
namespace Gb
open PySem PySem.Spec L2
section
variable {C : Ct} {W : WX} {w w' : Wd} {H H' : Hp} {σ σ' : L2.St} {Q : VK} {X : Cx} {ca : Cad} {ρ : List T} {t u : T}
theorem walk_enumT {a : Addr} {vs : List V} {b : Bool} {ds : List D} (h : TupAt C H (w.im b) a vs) (r : RDs C H (w.im b) ds vs) (hl : ds.length ≤ sizeLine) : Walk C w H (ItetT C.K a) b (enD 0 ds) where
  go := fun i w' H' hi A => by
    rw [enD_length] at hi
    obtain ⟨d, hd⟩ : ∃ d, ds[i]? = some d := ⟨ds[i], List.getElem?_eq_getElem hi⟩
    obtain ⟨v, hv, _⟩ := r.get hd
    exact ⟨vs, v, (h.after A).sq, hv⟩
  yld := fun i d w' H' ρ σ x H'' hd A S ⟨T, y, e, hT, eH, q⟩ => by
    subst eH
    rw [enD_get] at hd
    cases hd0 : ds[i]? with
    | none => rw [hd0] at hd; cases hd
    | some d0 =>
      rw [hd0] at hd
      cases hd
      obtain ⟨v, hv, rv⟩ := r.get hd0
      have ey := q vs (h.after A).sq
      rw [hv] at ey
      cases ey
      rw [Nat.zero_add]
      exact yld_pair S hT e rfl (RD_mono A.im _ _ rv)
  stop := fun w' H' A => ⟨vs, (h.after A).sq, by rw [enD_length, r.length]; exact Nat.le_refl _⟩
  line := by rw [enD_length]; exact hl
def enumItemsT : List T → List T → ER (Bool × List D)
  | [.imm b (.tup ds)], ρ => if ds.length ≤ 16777216 then .ok (b, enD 0 ds) ρ else .bad
  | _, _ => .bad
def diEnumT (da : DA) : DI := fun ρ => (da ρ).bind enumItemsT
theorem si_enumT {e : Expr} {da : DA} {p pos tpos : Pos} {elts : List Expr} {kk : Nat} (hm : X.mg "enumerate" = none) (ha : SA X ca W [e] da) (hg : Gl X "enumerate" := by rfl) (hs : starEach [e] X.env = [(false, eval e X.env)] := by rfl) :
    SI X ca W (.Tuple elts kk tpos) (.Call (.Name "enumerate" p) [e] [] pos) (diEnumT da) :=
  ⟨PI.imp (pi_enumT hg hm ha.pa hs) fun σ H R q => exIA q fun w H ts ρ vs l S k => by
    unfold enumItemsT at k
    split at k
    · rename_i b ds
      split at k
      · rename_i hl
        obtain ⟨v, rfl⟩ := vs1 l
        have S' : Stt _ w H (.imm b (.tup ds) :: ρ) (some v :: σ) := S
        obtain ⟨x, ex, a, vs, rfl, la, rd⟩ := S'.head_imm
        cases ex
        exact ⟨a, vs, rfl, .inl (.of la.2), k w H _ .refl S'.drop (walk_enumT (.inl ⟨la.1, .of la.2⟩) rd hl)⟩
      · exact (show False from k).elim
    · exact (show False from k).elim⟩
theorem v_iEnumT {dr : DA} : diEnumT dr ρ = bnd (dr ρ) enumItemsT := rfl
theorem v_enumItemsT {b : Bool} {ds : List D} (h : ds.length ≤ 16777216) : enumItemsT [.imm b (.tup ds)] ρ = .ok (b, enD 0 ds) ρ := if_pos h
end
end Gb

namespace Gb
open PySem PySem.Spec L2
section
variable {C : Ct} {W : WX} {pn : List Nat} {w w' w1 : Wd} {H H' : Hp} {σ σ' : L2.St} {En : Ends} {X : Cx} {ca : Cad} {ρ : List T} {t u o : T} {v : Option V}
/-! list(x) of a list of one's own, or of one that stands -/
def dListW (i : Nat) : DE := fun ρ => match ρ[i]? with
  | some (.lstI ds) => .ok (.lstI ds) ρ
  | some (.imm false (.lst ds)) => .ok (.lstI ds) ρ
  | _ => .bad
def lswk (ρ : List T) : Option T → ER T
  | some (.lstI ds) => .ok (.lstI ds) ρ
  | some (.imm false (.lst ds)) => .ok (.lstI ds) ρ
  | _ => .bad
theorem v_ListW {n : Nat} : dListW n ρ = lswk ρ ρ[n]? := by
  unfold dListW lswk
  rfl
theorem v_lswk1 {ds : List D} : lswk ρ (some (.lstI ds)) = .ok (.lstI ds) ρ := rfl
theorem v_lswk2 {ds : List D} : lswk ρ (some (.imm false (.lst ds))) = .ok (.lstI ds) ρ := rfl
/-! C(a, b, xs) of names: the list is the callee's own while it runs, and is given back -/
def dMakeL (Fn : FnT) (c i j k : Nat) : DE := fun ρ => match ρ[i]?, ρ[j]?, ρ[k]? with
  | some (.imm false d1), some (.imm false d2), some (.lstI ds) => (match Fn [.obj c [] [], .imm false d1, .imm false d2, .lstI ds] with
    | .okm (.imm _ .non) [o, _, _, t] => .ok o (ρ.set k t)
    | _ => .bad)
  | _, _, _ => .bad
def mklk (Fn : FnT) (c k : Nat) (ρ : List T) : Option T → Option T → Option T → ER T
  | some (.imm false d1), some (.imm false d2), some (.lstI ds) => (match Fn [.obj c [] [], .imm false d1, .imm false d2, .lstI ds] with
    | .okm (.imm _ .non) [o, _, _, t] => .ok o (ρ.set k t)
    | _ => .bad)
  | _, _, _ => .bad
def mkla (k : Nat) (ρ : List T) : FR → ER T
  | .okm (.imm _ .non) [o, _, _, t] => .ok o (ρ.set k t)
  | _ => .bad
theorem v_MakeL {Fn : FnT} {c i j k : Nat} : dMakeL Fn c i j k ρ = mklk Fn c k ρ ρ[i]? ρ[j]? ρ[k]? := rfl
theorem v_mklk {Fn : FnT} {c k : Nat} {d1 d2 : D} {ds : List D} : mklk Fn c k ρ (some (.imm false d1)) (some (.imm false d2)) (some (.lstI ds)) = mkla k ρ (Fn [.obj c [] [], .imm false d1, .imm false d2, .lstI ds]) := by
  unfold mklk mkla
  rfl
theorem v_mkla {k : Nat} {b : Bool} {o a1 a2 t : T} : mkla k ρ (.okm (.imm b .non) [o, a1, a2, t]) = .ok o (ρ.set k t) := rfl
end
end Gb

namespace L2
open PySem PySem.Spec PyProof.Rows
section
variable {X : Cx}
end
end L2
namespace Gb
open PySem PySem.Spec L2
section
variable {C : Ct} {W : WX} {w w' : Wd} {H H' : Hp} {σ σ' : L2.St} {Q : VK} {X : Cx} {ca : Cad} {ρ : List T} {t u : T}
/-! list.count of plain data -/
def cntL (d e : D) : Option Nat := match d.py, e.py with
  | some (.list qs), some p => if SeqAt.shaped (.list qs) && SeqAt.shaped p then some (qs.countP fun z => PyData.eqv z p) else none
  | _, _ => none
def lck2 (d : D) : T → List T → ER T
  | .imm _ e, ρ => (match cntL d e with
    | some j => .ok (.imm false (.int (j : Nat))) ρ
    | none => .bad)
  | _, _ => .bad
def lckc (db : DE) : T → List T → ER T
  | .imm _ (.lst ds), ρ => (db ρ).bind (lck2 (.lst ds))
  | _, _ => .bad
def dLCnt (da db : DE) : DE := fun ρ => (da ρ).bind (lckc db)
theorem v_LCnt {da db : DE} {ρ : List T} : dLCnt da db ρ = bnd (da ρ) (lckc db) := rfl
theorem v_lckc {db : DE} {ρ : List T} {b : Bool} {ds : List D} : lckc db (.imm b (.lst ds)) ρ = bnd (db ρ) (lck2 (.lst ds)) := rfl
theorem v_lck2 {ρ : List T} {b : Bool} {d e : D} {j : Nat} (h : cntL d e = some j) : lck2 d (.imm b e) ρ = .ok (.imm false (.int (j : Nat))) ρ := by
  unfold lck2
  simp only [h]
end
end Gb

namespace Gb
open PySem PySem.Spec L2
section
variable {C : Ct} {W : WX} {w w' : Wd} {H H' : Hp} {σ σ' : L2.St} {Q : VK} {X : Cx} {ca : Cad} {ρ : List T} {t u : T}
/-! d.pop(k) of an own dict, the key there -/
def dropN (k : Key) (ks : List Key) : List Key := ks.filter fun j => decide (j ≠ k)
def dropD (k : Key) : List Key → List D → List D
  | n :: ns, d :: ds => if n = k then dropD k ns ds else d :: dropD k ns ds
  | _, _ => []
def dpopk (i : Nat) : T → List T → ER T
  | .imm _ e, ρ => (match ρ[i]? with
    | some (.dicI ks ds) => (match keyD e with
      | some k => (match getK k ks ds with
        | some d => .ok (.imm false d) (ρ.set i (.dicI (dropN k ks) (dropD k ks ds)))
        | none => .bad)
      | none => .bad)
    | _ => .bad)
  | _, _ => .bad
def dDPop (i : Nat) (de : DE) : DE := fun ρ => match ρ[i]? with
  | some (.dicI _ _) => (de ρ).bind (dpopk i)
  | _ => .bad
def dpk (i : Nat) (de : DE) (ρ : List T) : Option T → ER T
  | some (.dicI _ _) => (de ρ).bind (dpopk i)
  | _ => .bad
def dpk2 (i : Nat) (e : D) (ρ : List T) : Option T → ER T
  | some (.dicI ks ds) => (match keyD e with
      | some k => (match getK k ks ds with
        | some d => .ok (.imm false d) (ρ.set i (.dicI (dropN k ks) (dropD k ks ds)))
        | none => .bad)
      | none => .bad)
  | _ => .bad
theorem v_DPop {i : Nat} {de : DE} : dDPop i de ρ = dpk i de ρ ρ[i]? := by
  unfold dDPop dpk
  rfl
theorem v_dpk {i : Nat} {de : DE} {ks : List Key} {ds : List D} : dpk i de ρ (some (.dicI ks ds)) = bnd (de ρ) (dpopk i) := rfl
theorem v_dpopk {i : Nat} {b : Bool} {e : D} : dpopk i (.imm b e) ρ = dpk2 i e ρ ρ[i]? := by
  unfold dpopk dpk2
  rfl
theorem v_dpk2 {i : Nat} {e d : D} {k : Key} {ks : List Key} {ds : List D} (h : keyD e = some k) (g : getK k ks ds = some d) : dpk2 i e ρ (some (.dicI ks ds)) = .ok (.imm false d) (ρ.set i (.dicI (dropN k ks) (dropD k ks ds))) := by
  unfold dpk2
  simp only [h, g]
end
end Gb

namespace L2
open PySem PySem.Spec PyProof.Rows
end L2
namespace Gb
open PySem PySem.Spec L2
section
variable {C : Ct} {W : WX} {w w' : Wd} {H H' : Hp} {σ σ' : L2.St} {Q : VK} {X : Cx} {ca : Cad} {ρ : List T} {t u : T} {pn : List Nat}
def keyT : Key → D
  | .inl i => .int i
  | .inr s => .str s
/-- for x in an own dict by whole numbers or texts: its keys; nobody changes it from then on -/
def diKeysO (i : Nat) : DI := fun ρ => match ρ[i]? with
  | some (.dicI ks ds) => if ks.length ≤ 16777216 then .ok (false, ks.map keyT) (ρ.set i (.imm false (.dic ks ds))) else .bad
  | _ => .bad
def dikk (i : Nat) (ρ : List T) : Option T → ER (Bool × List D)
  | some (.dicI ks ds) => if ks.length ≤ 16777216 then .ok (false, ks.map keyT) (ρ.set i (.imm false (.dic ks ds))) else .bad
  | _ => .bad
theorem v_KeysO {i : Nat} : diKeysO i ρ = dikk i ρ ρ[i]? := by
  unfold diKeysO dikk
  rfl
theorem v_dikk {i : Nat} {ks : List Key} {ds : List D} (h : ks.length ≤ 16777216) : dikk i ρ (some (.dicI ks ds)) = .ok (false, ks.map keyT) (ρ.set i (.imm false (.dic ks ds))) := if_pos h
end
end Gb

namespace Gb
open PySem PySem.Spec L2
/-! two names lent to one call: the inner one of them forgets the outer one, which is put back behind it -/
def lendD2 (j i : Nat) (t : T) (m : Nat) : ER T → ER T
  | .ok r ρ' => if noBs (r :: (ρ'.set i .dead).set j t) && decide (ρ'.length = m) && decide (i < m) then .ok r ((ρ'.set i .dead).set j t) else .bad
  | _ => .bad
def lendDk (j i : Nat) (de : DE) (ρ : List T) : Option T → ER T
  | some t => (match t.frz with
    | some (_, d) => lendD2 j i t ρ.length (de (ρ.set j (.imm true d)))
    | none => .bad)
  | none => .bad
def dLendD (j i : Nat) (de : DE) : DE := fun ρ => lendDk j i de ρ ρ[j]?
section
variable {C : Ct} {W : WX} {pn ch : List Nat} {w w' : Wd} {H H' : Hp} {σ σ' : L2.St} {En : Ends} {X : Cx} {ca : Cad} {ρ : List T} {t u : T} {v x : Option V}
theorem v_LendD {j i : Nat} {de : DE} : dLendD j i de ρ = lendDk j i de ρ ρ[j]? := rfl
theorem v_lendDk {j i : Nat} {de : DE} {b : Bool} {d : D} : lendDk j i de ρ (some (.imm b d)) = lendD2 j i (.imm b d) ρ.length (de (ρ.set j (.imm true d))) := rfl
theorem v_lendDk_lstI {j i : Nat} {de : DE} {ds : List D} : lendDk j i de ρ (some (.lstI ds)) = lendD2 j i (.lstI ds) ρ.length (de (ρ.set j (.imm true (.lst ds)))) := rfl
theorem v_lendDk_dicI {j i : Nat} {de : DE} {ks : List Key} {ds : List D} : lendDk j i de ρ (some (.dicI ks ds)) = lendD2 j i (.dicI ks ds) ρ.length (de (ρ.set j (.imm true (.dic ks ds)))) := rfl
theorem v_lendD2 {j i m : Nat} {r t : T} : lendD2 j i t m (.ok r ρ) = if noBs (r :: (ρ.set i .dead).set j t) && decide (ρ.length = m) && decide (i < m) then .ok r ((ρ.set i .dead).set j t) else .bad := rfl
theorem v_lendk_dicI {n : Nat} {de : DE} {ks : List Key} {ds : List D} : lendk n de ρ (some (.dicI ks ds)) = lend2 n (.dicI ks ds) ρ.length (de (ρ.set n (.imm true (.dic ks ds)))) := rfl
theorem v_noB_dicI {ks : List Key} {ds : List D} : noB (.dicI ks ds) = true := rfl
end
end Gb

namespace Gb
open PySem PySem.Spec L2
/-! own dicts whose keys are whole numbers and None -/
section
variable {C : Ct} {W : WX} {pn ch : List Nat} {w w' : Wd} {H H' : Hp} {σ σ' : L2.St} {En : Ends} {X : Cx} {ca : Cad} {ρ : List T} {t u : T} {v x : Option V}
def oKey : D → Option OKey
  | .non => some none
  | .int i => some (some i)
  | _ => none
def getOD (k : OKey) : List OKey → List D → Option D
  | n :: ns, d :: ds => if n = k then some d else getOD k ns ds
  | _, _ => none
def putOk (k : OKey) : List OKey → List OKey
  | [] => [k]
  | n :: ns => if n = k then n :: ns else n :: putOk k ns
def putOd (k : OKey) (d : D) : List OKey → List D → List D
  | n :: ns, x :: xs => if n = k then d :: xs else x :: putOd k d ns xs
  | _, _ => [d]
/-! {} and {None: None} -/
def dONew : DE := fun ρ => .ok (.dic [] []) ρ
def dO1 : DE := fun ρ => .ok (.dic [none] [.non]) ρ
/-! k in name, k not in name, name[k], name[k] = v -/
def oik2 (neg : Bool) (ρ : List T) : Option T → Option OKey → ER T
  | some (.dic ks ds), some k => .ok (.imm false (.bl (if neg = true then !(getOD k ks ds).isSome else (getOD k ks ds).isSome))) ρ
  | _, _ => .bad
def oink (i : Nat) (neg : Bool) : T → List T → ER T
  | .imm _ e, ρ => oik2 neg ρ ρ[i]? (oKey e)
  | _, _ => .bad
def dOIn (i : Nat) (neg : Bool) (de : DE) : DE := fun ρ => (de ρ).bind (oink i neg)
def ogk2 (ρ : List T) : Option T → Option OKey → ER T
  | some (.dic ks ds), some k => (match getOD k ks ds with
    | some d => .ok (.imm false d) ρ
    | none => .bad)
  | _, _ => .bad
def ogk (i : Nat) : T → List T → ER T
  | .imm _ e, ρ => ogk2 ρ ρ[i]? (oKey e)
  | _, _ => .bad
def ogk0 (i : Nat) (de : DE) (ρ : List T) : Option T → ER T
  | some (.dic _ _) => (de ρ).bind (ogk i)
  | _ => .bad
def dOGet (i : Nat) (de : DE) : DE := fun ρ => ogk0 i de ρ ρ[i]?
def opk3 (i : Nat) (d : D) (ρ2 : List T) : Option T → Option OKey → SR
  | some (.dic ks ds), some k => if ks.length < 16777216 then .next (ρ2.set i (.dic (putOk k ks) (putOd k d ks ds))) else .bad
  | _, _ => .bad
def opk2 (i : Nat) (d : D) : ER T → SR
  | .ok (.imm _ e) ρ2 => opk3 i d ρ2 ρ2[i]? (oKey e)
  | _ => .bad
def opk1 (i : Nat) (dk : DE) (ρ1 : List T) : Option T → Option (Bool × D) → SR
  | some (.dic _ _), some (false, d) => opk2 i d (dk ρ1)
  | _, _ => .bad
def opk0 (i : Nat) (dk : DE) : T → List T → SR := fun t ρ1 => opk1 i dk ρ1 ρ1[i]? t.frz
def dOPut (i : Nat) (dk de : DE) : DS := dEx de (opk0 i dk)
theorem v_ONew : dONew ρ = .ok (.dic [] []) ρ := rfl
theorem v_O1 : dO1 ρ = .ok (.dic [none] [.non]) ρ := rfl
theorem v_OIn {i : Nat} {neg : Bool} {de : DE} : dOIn i neg de ρ = bnd (de ρ) (oink i neg) := rfl
theorem v_oink {i : Nat} {neg b : Bool} {e : D} : oink i neg (.imm b e) ρ = oik2 neg ρ ρ[i]? (oKey e) := rfl
theorem v_oik2_f {ks : List OKey} {ds : List D} {k : OKey} : oik2 false ρ (some (.dic ks ds)) (some k) = .ok (.imm false (.bl (getOD k ks ds).isSome)) ρ := rfl
theorem v_oik2_t {ks : List OKey} {ds : List D} {k : OKey} : oik2 true ρ (some (.dic ks ds)) (some k) = .ok (.imm false (.bl (!(getOD k ks ds).isSome))) ρ := rfl
theorem v_oKey_non : oKey .non = some none := rfl
theorem v_oKey_int {i : Int} : oKey (.int i) = some (some i) := rfl
theorem v_OGet {i : Nat} {de : DE} : dOGet i de ρ = ogk0 i de ρ ρ[i]? := rfl
theorem v_ogk0 {i : Nat} {de : DE} {ks : List OKey} {ds : List D} : ogk0 i de ρ (some (.dic ks ds)) = bnd (de ρ) (ogk i) := rfl
theorem v_ogk {i : Nat} {b : Bool} {e : D} : ogk i (.imm b e) ρ = ogk2 ρ ρ[i]? (oKey e) := rfl
theorem v_ogk2 {ks : List OKey} {ds : List D} {k : OKey} {d : D} (h : getOD k ks ds = some d) : ogk2 ρ (some (.dic ks ds)) (some k) = .ok (.imm false d) ρ := by
  unfold ogk2
  simp only [h]
theorem v_OPut {i : Nat} {dk de : DE} : dOPut i dk de ρ = exk (de ρ) (opk0 i dk) := by
  show dEx de _ ρ = _
  unfold dEx exk
  cases de ρ with
  | ok t ρ1 => rfl
  | exc e ρ1 => rfl
  | bad => rfl
theorem v_opk0 {i : Nat} {dk : DE} {b : Bool} {d : D} : opk0 i dk (.imm b d) ρ = opk1 i dk ρ ρ[i]? (some (b, d)) := rfl
theorem v_opk1 {i : Nat} {dk : DE} {ks : List OKey} {ds : List D} {d : D} : opk1 i dk ρ (some (.dic ks ds)) (some (false, d)) = opk2 i d (dk ρ) := rfl
theorem v_opk2 {i : Nat} {b : Bool} {d e : D} : opk2 i d (.ok (.imm b e) ρ) = opk3 i d ρ ρ[i]? (oKey e) := rfl
theorem v_opk3 {i : Nat} {ks : List OKey} {ds : List D} {k : OKey} {d : D} (h : ks.length < 16777216) : opk3 i d ρ (some (.dic ks ds)) (some k) = .next (ρ.set i (.dic (putOk k ks) (putOd k d ks ds))) := if_pos h
theorem v_noB_dic {ks : List OKey} {ds : List D} : noB (.dic ks ds) = true := rfl
end
end Gb

namespace Gb
open PySem PySem.Spec L2
section
variable {C : Ct} {W : WX} {pn ch : List Nat} {w w' : Wd} {H H' : Hp} {σ σ' : L2.St} {En : Ends} {X : Cx} {ca : Cad} {ρ : List T} {t u : T} {v x : Option V}
/-! name.clear() of a list of own things, name[j].clear() -/
theorem Stt.wipe {ts : List T} {p : Addr} (h : Stt C w H (.lst ts :: ρ) (some (.ref p) :: σ)) : ∃ vs, H p = some (.lst vs) ∧ After w H w (upd H p (.lst [])) ∧ Stt C w (upd H p (.lst [])) (.lstI [] :: ρ) (some (.ref p) :: σ) := by
  obtain ⟨F, ⟨v0, r0, f1, f2, e, ⟨a, vs, f, e3, g, rd, rfl⟩, h2, rfl⟩, nd, out, tr, tb⟩ := h
  injection e with e1 e2
  subst e1; subst e2
  cases e3
  have op := out p (by simp)
  have ne : ∀ b, (w.I b ∨ w.B b ∨ w.R b) → b ≠ p := fun b z e => by
    subst e
    rcases z with z | z | z
    · exact op.1 z
    · exact op.2.1 z
    · exact op.2.2 z
  have nf : ∀ b ∈ f2, b ≠ p := fun b hb e => by
    subst e
    exact (List.nodup_append.mp nd).2.2 b (by simp) b hb rfl
  refine ⟨vs, g, ⟨fun _ z => z, rfl, rfl, fun _ z => .inl z, fun b z => upd_ne (ne b z)⟩, [p] ++ f2, ⟨_, σ, [p], f2, rfl, ⟨p, [], rfl, upd_same, rfl, rfl⟩, ?_, rfl⟩, ?_, fun b hb => ?_, fun b z => ?_, tabs_wr tb g⟩
  · exact RTs_mono (w := w) (H := H) (fun b z => ⟨z, upd_ne (ne b (.inl z))⟩) (fun b z => ⟨z, upd_ne (ne b (.inr (.inl z)))⟩) _ _ _ (fun b hb => upd_ne (nf b hb)) h2
  · exact List.nodup_cons.mpr ⟨fun z => nf p z rfl, (List.nodup_append.mp nd).2.1⟩
  · rcases List.mem_append.mp hb with hb | hb
    · rw [List.mem_singleton.mp hb]; exact op
    · exact out b (List.mem_append_right _ hb)
  · rw [upd_ne (ne b z)]; exact tr b z
def clro (i : Nat) (ρ : List T) : Option (List T) → ER T
  | some _ => .ok (.imm false .non) (ρ.set i (.lstI []))
  | none => .bad
def dClearO (i : Nat) : DE := fun ρ => clro i ρ ((ρ[i]?).bind asO)
def clr2b (i : Nat) (ρ : List T) (ts : List T) : Option (Nat × List D) → ER T
  | some (jn, _) => .ok (.imm false .non) (ρ.set i (.lst (ts.set jn (.lstI []))))
  | none => .bad
def clr2a (i : Nat) (j : Int) (ρ : List T) : Option (List T) → ER T
  | some ts => clr2b i ρ ts (inner ts j)
  | none => .bad
def clr2 (i : Nat) : T → List T → ER T
  | .imm _ (.int j), ρ => clr2a i j ρ ((ρ[i]?).bind asO)
  | _, _ => .bad
def clr20 (i : Nat) (dj : DE) (ρ : List T) : Option (List T) → ER T
  | some _ => (dj ρ).bind (clr2 i)
  | none => .bad
def dClear2 (i : Nat) (dj : DE) : DE := fun ρ => clr20 i dj ρ ((ρ[i]?).bind asO)
theorem v_ClearO {i : Nat} : dClearO i ρ = clro i ρ ((ρ[i]?).bind asO) := rfl
theorem v_clro {i : Nat} {ts : List T} : clro i ρ (some ts) = .ok (.imm false .non) (ρ.set i (.lstI [])) := rfl
theorem v_Clear2 {i : Nat} {dj : DE} : dClear2 i dj ρ = clr20 i dj ρ ((ρ[i]?).bind asO) := rfl
theorem v_clr20 {i : Nat} {dj : DE} {ts : List T} : clr20 i dj ρ (some ts) = bnd (dj ρ) (clr2 i) := rfl
theorem v_clr2 {i : Nat} {b : Bool} {j : Int} : clr2 i (.imm b (.int j)) ρ = clr2a i j ρ ((ρ[i]?).bind asO) := rfl
theorem v_clr2a {i : Nat} {j : Int} {ts : List T} : clr2a i j ρ (some ts) = clr2b i ρ ts (inner ts j) := rfl
theorem v_clr2b {i jn : Nat} {ts : List T} {ds : List D} : clr2b i ρ ts (some (jn, ds)) = .ok (.imm false .non) (ρ.set i (.lst (ts.set jn (.lstI [])))) := rfl
end
end Gb

namespace Gb
open PySem PySem.Spec L2
section
variable {C : Ct} {W : WX} {pn ch : List Nat} {w w' : Wd} {H H' : Hp} {σ σ' : L2.St} {En : Ends} {X : Cx} {ca : Cad} {ρ : List T} {t u : T} {v x : Option V}
/-! for a, b in a lent list: what hangs on no address is one's own -/
def dgConsI (g : DG) (r : DGs) : DGs := fun b ds ρ => match ds with
  | [] => none
  | d :: ds => match g (itm b d) ρ with
    | some ρ' => r b ds ρ'
    | none => none
theorem v_gConsI {b : Bool} {d : D} {ds : List D} {g : DG} {r : DGs} : dgConsI g r b (d :: ds) ρ = gck r b ds (g (itm b d) ρ) := by
  unfold dgConsI gck
  rfl
end
end Gb

namespace Gb
open PySem PySem.Spec L2
section
variable {X : Cx} {ca : Cad} {ρ : List T} {t u o : T}
/-! own things of a class that change: how they are walked -/
theorem v_FldO {i : Nat} {f : Str} {ok : Nat → Bool} : dFldO i f ok ρ = fldo i f ok ρ ρ[i]? := rfl
theorem v_fldo {i k c : Nat} {f : Str} {ok : Nat → Bool} {ns : List Str} {ts : List T} {b : Bool} {d : D} (h1 : ok c = true) (h2 : ixF f ns = some k) (h3 : ts[k]? = some (.imm b d)) : fldo i f ok ρ (some (.obj c ns ts)) = .ok (.imm b d) (ρ.set i (.obj c ns (ts.set k (.imm b d)))) := by
  unfold fldo
  simp only [h1, if_true, h2, h3]
  rfl
def putfk (i : Nat) (f : Str) (ok : Nat → Bool) : ER T → SR
  | .ok t ρ1 => putk i f ok t ρ1 ρ1[i]?
  | .exc e ρ1 => .exc e ρ1
  | .bad => .bad
theorem v_PutF {i : Nat} {f : Str} {ok : Nat → Bool} {de : DE} : dPutF i f ok de ρ = putfk i f ok (de ρ) := by
  unfold dPutF putfk
  cases de ρ <;> rfl
theorem v_putfk {i : Nat} {f : Str} {ok : Nat → Bool} : putfk i f ok (.ok t ρ) = putk i f ok t ρ ρ[i]? := rfl
theorem v_putfk_exc {i : Nat} {f : Str} {ok : Nat → Bool} {e : Ex} : putfk i f ok (.exc e ρ) = .exc e ρ := rfl
theorem v_putk {i k c : Nat} {f : Str} {ok : Nat → Bool} {ns : List Str} {ts : List T} (h1 : ok c = true ∧ ns.length < 1000) (h2 : ixF f ns = some k) (h3 : k < ts.length) : putk i f ok t ρ (some (.obj c ns ts)) = .next (ρ.set i (.obj c ns (ts.set k t))) := by
  unfold putk
  simp only [h1, and_self, if_true, h2, h3]
theorem v_MethO0 {i : Nat} {m : Str} {c : Nat} {Fn : FnT} {ds : List D} : dMethO0 i m c Fn ds ρ = metho i m c Fn ds [] ρ ρ[i]? := rfl
def methok (i : Nat) (m : Str) (c : Nat) (Fn : FnT) (ds : List D) (ts ρ1 : List T) : ER T := metho i m c Fn ds ts ρ1 ρ1[i]?
def methOq (i : Nat) (m : Str) (c : Nat) (Fn : FnT) (ds : List D) (da : DA) (ρ : List T) (b : Bool) : ER T := if b = true then bnd (da ρ) (methok i m c Fn ds) else .bad
theorem v_MethO {i : Nat} {m : Str} {c : Nat} {Fn : FnT} {ds : List D} {da : DA} : dMethO i m c Fn ds da ρ = methOq i m c Fn ds da ρ (isO m c ρ[i]?) := rfl
theorem v_methOq {i : Nat} {m : Str} {c : Nat} {Fn : FnT} {ds : List D} {da : DA} : methOq i m c Fn ds da ρ true = bnd (da ρ) (methok i m c Fn ds) := rfl
theorem v_methok {i : Nat} {m : Str} {c : Nat} {Fn : FnT} {ds : List D} {ts : List T} : methok i m c Fn ds ts ρ = metho i m c Fn ds ts ρ ρ[i]? := rfl
theorem v_afterO {i : Nat} {os : List T} : afterO i ρ (.okm t (o :: os)) = .ok t (ρ.set i o) := rfl
theorem v_afterO_exc {i : Nat} {os : List T} {e : Ex} : afterO i ρ (.excm e (o :: os)) = .exc e (ρ.set i o) := rfl
theorem meth_ok {i c : Nat} {m : Str} {Fn : FnT} {ds : List D} {ts us : List T} {ns : List Str} (h : m ∉ ns) : metho i m c Fn ds ts ρ (some (.obj c ns us)) = afterO i ρ (Fn (.obj c ns us :: (ts ++ ds.map (T.imm false)))) := if_pos ⟨rfl, h⟩
theorem isO_ok {c : Nat} {m : Str} {ns : List Str} {us : List T} (h : m ∉ ns) : isO m c (some (.obj c ns us)) = true := decide_eq_true ⟨rfl, h⟩
theorem v_finX_next {n : Nat} : finX n (.next ρ) = .okm (.imm false .non) (ρ.take n) := rfl
theorem v_finX_ret {n : Nat} : finX n (.ret t ρ) = .okm t (ρ.take n) := rfl
theorem v_finX_exc {n : Nat} {e : Ex} : finX n (.exc e ρ) = .excm e (ρ.take n) := rfl
end
end Gb

namespace Gb
open PySem PySem.Spec L2
section
variable {C : Ct} {W : WX} {pn ch : List Nat} {w w' : Wd} {H H' : Hp} {σ σ' : L2.St} {En : Ends} {X : Cx} {ca : Cad} {ρ : List T} {t u : T} {v x : Option V}
/-! a text in a tuple of texts -/
theorem inV_txts (s : Str) : ∀ ts : List Str, inV (.str s) (ts.map V.str) = decide (s ∈ ts)
  | [] => rfl
  | t :: ts => by
    have ih := inV_txts s ts
    unfold inV at ih ⊢
    rw [List.map_cons, List.any_cons, ih]
    rw [show eqV (.str t) (.str s) = decide (t = s) from by unfold eqV; first | rfl | (by_cases e : t = s <;> simp [e])]
    by_cases e : t = s
    · subst e; simp
    · rw [decide_eq_false e, Bool.false_or]
      by_cases e2 : s ∈ ts
      · rw [decide_eq_true e2, decide_eq_true (List.mem_cons_of_mem _ e2)]
      · rw [decide_eq_false e2, decide_eq_false (fun z => (List.mem_cons.mp z).elim (fun q => e q.symm) e2)]
theorem flat_txts : ∀ ts : List Str, (ts.map V.str).all flatV = true
  | [] => rfl
  | t :: ts => by rw [List.map_cons, List.all_cons, flat_txts ts]; rfl
def gInU : D → D → Option D
  | .str s, .tup ds => (strsD ds).map fun ts => .bl (decide (s ∈ ts))
  | _, _ => none
def gNinU : D → D → Option D
  | .str s, .tup ds => (strsD ds).map fun ts => .bl (!decide (s ∈ ts))
  | _, _ => none
theorem inU_aux {neg : Bool} {f : D → D → Option D} (hf : ∀ d e r, f d e = some r → ∃ s ds ts, d = .str s ∧ e = .tup ds ∧ strsD ds = some ts ∧ r = .bl (if neg then !decide (s ∈ ts) else decide (s ∈ ts))) {Q : VK} {τ τ' : T} {v u : V} (S : Stt ⟨X.K, ca⟩ w H (τ :: τ' :: ρ) (some v :: some u :: σ))
    (k : kE ⟨X.K, ca⟩ W w H σ Q (fS f τ τ' ρ)) : rIn X.K neg v u H Q := by
  unfold fS at k
  split at k
  · rename_i b d c e
    split at k
    · rename_i r hr
      obtain ⟨s, ds, ts, rfl, rfl, ht, rfl⟩ := hf _ _ _ hr
      obtain ⟨x', ex, r1⟩ := S.head_imm
      cases ex
      obtain ⟨y', ey, r2⟩ := S.drop.head_imm
      cases ey
      obtain ⟨a, vs, rfl, ta, rd⟩ := r2
      have e1 : v = V.str s := r1
      subst e1
      have e2 := strsD_rd ht rd
      subst e2
      refine ⟨a, _, rfl, .inr (.inl (.of ta.2)), rfl, flat_txts ts, ?_⟩
      rw [inV_txts]
      exact ok_scal S k rfl
    · exact k.elim
  · exact k.elim
theorem ops_ninU : OpS X ca W (compareOp .NotIn) (fS gNinU) := ⟨_, op_notIn_seq, fun w H σ Q x y ρ v u S k => inU_aux (neg := true) (fun d e r h => by
  unfold gNinU at h
  split at h
  · rename_i s ds
    obtain ⟨ts, h1, rfl⟩ := Option.map_eq_some_iff.mp h
    exact ⟨s, ds, ts, rfl, rfl, h1, rfl⟩
  · cases h) S k⟩
theorem v_gNinU {s : Str} {ds : List D} {ts : List Str} (h : strsD ds = some ts) : gNinU (.str s) (.tup ds) = some (.bl (!decide (s ∈ ts))) := by
  show (strsD ds).map _ = _
  rw [h]; rfl
theorem v_gInU {s : Str} {ds : List D} {ts : List Str} (h : strsD ds = some ts) : gInU (.str s) (.tup ds) = some (.bl (decide (s ∈ ts))) := by
  show (strsD ds).map _ = _
  rw [h]; rfl
end
end Gb


namespace Gb
open PySem PySem.Spec L2
open PyProof.Rows (envOfC)
def top (i : Nat) : Stmt := PySem.Challenge.pw_glowboard_k75_scenes_written.main.body.getD i (.Pass ⟨0, 0, 0, 0⟩)
structure Bi (mg : Str → Option Value) : Prop where
  all_ : mg "all" = none
  bool_ : mg "bool" = none
  enumerate : mg "enumerate" = none
  int_ : mg "int" = none
  isinstance : mg "isinstance" = none
  len : mg "len" = none
  list_ : mg "list" = none
  range : mg "range" = none
  repr_ : mg "repr" = none
  str_ : mg "str" = none
  tuple_ : mg "tuple" = none
  zip : mg "zip" = none
  g_COLOURS : ∃ t, mg "COLOURS" = some (.int 16 t)
  g_DEEP : ∃ t, mg "DEEP" = some (.int 12 t)
  g_FAR : ∃ t, mg "FAR" = some (.int 1000000000 t)
  g_MANY : ∃ t, mg "MANY" = some (.int 60 t)
  g_MOST : ∃ t, mg "MOST" = some (.int 64 t)
  g_SIGNS : ∃ t, mg "SIGNS" = some (.str ("0123456789abcdef" : PySem.Str) t)
abbrev ksT : List Nat := [7, 13]
def obOk_begun (k : Nat) : Bool := decide (k ∈ [16])
def obOk_here (k : Nat) : Bool := decide (k ∈ [16])
def obOk_signs (k : Nat) : Bool := decide (k ∈ [16])
structure Bx (P : Program) (wd : World) (K : PySem.W.Frag) (mg : Str → Option Value) (ca : Cad) : Prop where
  g_GlowError : mg "GlowError" = some (.ref (ca 0))
  catch_GlowError : CatchF K ca (.ref (ca 0)) (isT ksT 0)
  is_GlowError : IsF K ca (.ref (ca 0)) (isT ksT 0)
  g_NoPicture : mg "NoPicture" = some (.ref (ca 7))
  catch_NoPicture : CatchF K ca (.ref (ca 7)) (isT ksT 7)
  is_NoPicture : IsF K ca (.ref (ca 7)) (isT ksT 7)
  g_NoText : mg "NoText" = some (.ref (ca 13))
  catch_NoText : CatchF K ca (.ref (ca 13)) (isT ksT 13)
  is_NoText : IsF K ca (.ref (ca 13)) (isT ksT 13)
  i_NoPicture : ExI P wd K mg (ca 7) "NoPicture" [("row" : PySem.Str)]
  i_NoText : ExI P wd K mg (ca 13) "NoText" [("at" : PySem.Str)]
  ob_begun : ObF K ca ("begun" : PySem.Str) obOk_begun
  ob_here : ObF K ca ("here" : PySem.Str) obOk_here
  ob_signs : ObF K ca ("signs" : PySem.Str) obOk_signs
def den_is_whole : DS := (dRet (dAnd (dBi fIsi (dCons (dVar 0) (dCons (dC (.ty "int")) dNil))) (dNot (dBi fIsi (dCons (dVar 0) (dCons (dC (.ty "bool")) dNil))))))
def F_is_whole : FnT := mkFn 1 1 den_is_whole
def den_is_cell : DS := (dRet (dOr (d2 oIs (dVar 0) (dC .non)) (dAnd (dCall F_is_whole [] (dCons (dVar 0) dNil)) (dChain oLe oLt (dC (.int 0)) (dVar 0) (dC (.int 16))))))
def F_is_cell : FnT := mkFn 1 1 den_is_cell
def den_is_row : DS := (dSeq (dIf (dtOr (dtNot (dtVal (dBi fIsi (dCons (dVar 0) (dCons (dC (.ty "list")) dNil))))) (dtVal (d2 oNe (dLenV 0) (dVar 1)))) (dRet (dC (.bl false))) dPass)
    (dRet (dBi (fBools fun bs => bs.all id) (dCons (dFr (dLc [2] (dgName 2) (diVal (dVar 0)) dtYes (dFr (dCall F_is_cell [] (dCons (dVar 2) dNil))))) dNil))))
def F_is_row : FnT := mkFn 3 2 den_is_row
def bd_row_bits_1 : DS := (dIf (dtVal (d2 oIsNot (dIxV 0 (dVar 3)) (dC .non))) (dSeq (dSet 1 (d2 oOr (dVar 1) (d2 oShl (dIxV 0 (dVar 3)) (dFr (d2 fMul (dC (.int 4)) (dVar 3))))))
    (dSet 2 (d2 oOr (dVar 2) (d2 oShl (dC (.int 1)) (dVar 3))))) dPass)
def den_row_bits : DS := (dSeq (dSet 1 (dC (.int 0)))
    (dSeq (dSet 2 (dC (.int 0)))
    (dSeq (dFor (dgName 3) (diRange1 (dCons (dLenV 0) dNil)) bd_row_bits_1)
    (dRet (dTup (dCons (dVar 1) (dCons (dVar 2) dNil)))))))
def F_row_bits : FnT := mkFn 4 1 den_row_bits
def bd_pictured_1 : DS := (dIf (dtNot (dtVal (dCall F_is_row [] (dCons (dIxV 0 (dVar 2)) (dCons (dVar 1) dNil))))) (dRaiseF 7 [("row" : PySem.Str)] (dCons (dVar 2) dNil)) dPass)
def den_pictured : DS := (dSeq (dIf (dtOr (dtNot (dtVal (dBi fIsi (dCons (dVar 0) (dCons (dC (.ty "list")) dNil))))) (dtNot (dtVal (dChain oLe oLe (dC (.int 1)) (dLenV 0) (dC (.int 64)))))) (dRaiseF 7 [("row" : PySem.Str)] (dCons (dC .non) dNil)) dPass)
    (dSeq (dIf (dtOr (dtNot (dtVal (dBi fIsi (dCons (dIxV 0 (dC (.int 0))) (dCons (dC (.ty "list")) dNil))))) (dtNot (dtVal (dChain oLe oLe (dC (.int 1)) (dBi fLen (dCons (dIxV 0 (dC (.int 0))) dNil)) (dC (.int 64)))))) (dRaiseF 7 [("row" : PySem.Str)] (dCons (dC (.int 0)) dNil)) dPass)
    (dSeq (dSet 1 (dBi fLen (dCons (dIxV 0 (dC (.int 0))) dNil)))
    (dSeq (dFor (dgName 2) (diRange1 (dCons (dLenV 0) dNil)) bd_pictured_1)
    (dSeq (dSet 3 (dLc [4] (dgName 4) (diVal (dVar 0)) dtYes (dFr (dCall F_row_bits [] (dCons (dVar 4) dNil)))))
    (dSeq (dSet 5 (dBi fTuple (dCons (dFr (dLc [6] (dgName 6) (diVal (dVar 3)) dtYes (dIxV 6 (dC (.int 0))))) dNil)))
    (dRet (dTup (dCons (dVar 1) (dCons (dLenV 0) (dCons (dVar 5) (dCons (dBi fTuple (dCons (dFr (dLc [6] (dgName 6) (diVal (dVar 3)) dtYes (dIxV 6 (dC (.int 1))))) dNil)) dNil))))))))))))
def F_pictured : FnT := mkFn 7 1 den_pictured
def den_cell_in : DS := (dSeq (dIf (dtVal (d2 oEq (d2 oAnd (d2 oShr (dVar 1) (dVar 2)) (dC (.int 1))) (dC (.int 0)))) (dRet (dC .non)) dPass)
    (dRet (d2 oAnd (d2 oShr (dVar 0) (dFr (d2 fMul (dC (.int 4)) (dVar 2)))) (dC (.int 15)))))
def F_cell_in : FnT := mkFn 3 3 den_cell_in
def bd_rows_of_1 : DS := (dDrop (dAppend 1 (dLc [3] (dgName 3) (diRange1 (dCons (dIxV 0 (dC (.int 0))) dNil)) dtYes (dFr (dCall F_cell_in [] (dCons (d2 fIx (dIxV 0 (dC (.int 2))) (dVar 2)) (dCons (d2 fIx (dIxV 0 (dC (.int 3))) (dVar 2)) (dCons (dVar 3) dNil))))))))
def den_rows_of : DS := (dSeq (dSet 1 (dLst dNil))
    (dSeq (dFor (dgName 2) (diRange1 (dCons (dIxV 0 (dC (.int 1))) dNil)) bd_rows_of_1)
    (dRet (dMove 1))))
def F_rows_of : FnT := mkFn 4 1 den_rows_of
def bd_cells_by_1 : DS := (dIf (dtVal (d2 oEq (dVar 2) (dC (.str ("." : PySem.Str))))) (dDrop (dAppend 1 (dC .non))) (dIf (dtVal (d2 (fS gInT) (dVar 2) (dC (.str ("0123456789abcdef" : PySem.Str))))) (dDrop (dAppend 1 (dT1 fIndexT (dC (.str ("0123456789abcdef" : PySem.Str))) (dVar 2)))) (dRaiseF 13 [("at" : PySem.Str)] (dCons (dC .non) dNil))))
def den_cells_by : DS := (dSeq (dSet 1 (dLst dNil))
    (dSeq (dFor (dgName 2) (diVal (dVar 0)) bd_cells_by_1)
    (dRet (dMove 1))))
def F_cells_by : FnT := mkFn 3 1 den_cells_by
def den_read_drawing : DS := (dSeq (dSet 1 (dLcX [2] (dgName 2) (diVal (dFr (dT1 fSplit (dVar 0) (dC (.str ("/" : PySem.Str)))))) dtYes (dFr (dCall F_cells_by [] (dCons (dVar 2) dNil)))))
    (dSeq (dSet 3 (dC .non))
    (dSeq (dTry0 (isT ksT 7) (dSet 3 (dCall F_pictured [] (dCons (dVar 1) dNil))) (dSet 3 (dC .non)))
    (dSeq (dIf (dtVal (d2 oIs (dVar 3) (dC .non))) (dRaiseF 13 [("at" : PySem.Str)] (dCons (dC .non) dNil)) dPass)
    (dRet (dMove 3))))))
def F_read_drawing : FnT := mkFn 4 1 den_read_drawing
def den_row_text : DS := (dRet (dT1 fJoin (dC (.str ("" : PySem.Str))) (dFr (dLc [1] (dgName 1) (diVal (dVar 0)) dtYes (dIfE (dtVal (d2 oIs (dVar 1) (dC .non))) (dC (.str ("." : PySem.Str))) (d2 fIx (dC (.str ("0123456789abcdef" : PySem.Str))) (dVar 1)))))))
def F_row_text : FnT := mkFn 2 1 den_row_text
def den_drawing_of : DS := (dRet (dT1 fJoin (dC (.str ("/" : PySem.Str))) (dFr (dLc [1] (dgName 1) (diVal (dFr (dCall F_rows_of [] (dCons (dVar 0) dNil)))) dtYes (dFr (dCall F_row_text [] (dCons (dVar 1) dNil)))))))
def F_drawing_of : FnT := mkFn 2 1 den_drawing_of
def den_whole_in : DS := (dSeq (dSet 3 (dVar 0))
    (dSeq (dIf (dtVal (d2 oEq (dFr (dSl (dVar 0) doNone (doSome (dC (.int 1))))) (dC (.str ("-" : PySem.Str))))) (dSet 3 (dSl (dVar 0) (doSome (dC (.int 1))) doNone)) dPass)
    (dSeq (dIf (dtOr (dtVal (d2 oLt (dLenV 3) (dC (.int 1)))) (dtOr (dtVal (d2 oGt (dLenV 3) (dC (.int 10)))) (dtNot (dtVal (dBi (fBools fun bs => bs.all id) (dCons (dFr (dLc [4] (dgName 4) (diVal (dVar 3)) dtYes (d2 (fS gInT) (dVar 4) (dC (.str ("0123456789" : PySem.Str)))))) dNil)))))) (dRet (dC .non)) dPass)
    (dSeq (dIf (dtAnd (dtVal (d2 oEq (dIxV 3 (dC (.int 0))) (dC (.str ("0" : PySem.Str))))) (dtVal (d2 oNe (dVar 0) (dC (.str ("0" : PySem.Str)))))) (dRet (dC .non)) dPass)
    (dSeq (dSet 5 (dBi fInt (dCons (dVar 0) dNil)))
    (dSeq (dIf (dtOr (dtVal (d2 oLt (dVar 5) (dVar 1))) (dtVal (d2 oGt (dVar 5) (dVar 2)))) (dRet (dC .non)) dPass)
    (dRet (dMove 5))))))))
def F_whole_in : FnT := mkFn 6 3 den_whole_in
def den_Reader_init : DS := (dSeq (dSetFld 0 ("signs" : PySem.Str) obOk_signs (dT1 fSplit (dVar 1) (dC (.str (" " : PySem.Str)))))
    (dSeq (dSetFld 0 ("here" : PySem.Str) obOk_here (dC (.int 0)))
    (dSetFld 0 ("begun" : PySem.Str) obOk_begun (dC (.int 0)))))
def F_Reader_init : FnT := mkFnM 2 2 den_Reader_init
def den_Reader_due_word : DS := (dSeq (dIf (dtVal (d2 oEq (dFldO 0 ("here" : PySem.Str) obOk_here) (dBi fLen (dCons (dFldO 0 ("signs" : PySem.Str) obOk_signs) dNil)))) (dRaiseF 13 [("at" : PySem.Str)] (dCons (dFldO 0 ("here" : PySem.Str) obOk_here) dNil)) dPass)
    (dRet (d2 fIx (dFldO 0 ("signs" : PySem.Str) obOk_signs) (dFldO 0 ("here" : PySem.Str) obOk_here))))
def F_Reader_due_word : FnT := mkFnX 1 1 den_Reader_due_word
def den_Reader_take : DS := (dSeq (dSet 2 (dMethO0 0 "due_word" 16 F_Reader_due_word []))
    (dSeq (dIf (dtVal (d2 (fS gNinU) (dVar 2) (dVar 1))) (dRaiseF 13 [("at" : PySem.Str)] (dCons (dFldO 0 ("here" : PySem.Str) obOk_here) dNil)) dPass)
    (dSeq (dPutF 0 ("here" : PySem.Str) obOk_here (d2 fAdd (dFldO 0 ("here" : PySem.Str) obOk_here) (dC (.int 1))))
    (dRet (dMove 2)))))
def F_Reader_take : FnT := mkFnX 3 2 den_Reader_take
def den_Reader_take_whole : DS := (dSeq (dSet 3 (dCall F_whole_in [] (dCons (dFr (dMethO0 0 "due_word" 16 F_Reader_due_word [])) (dCons (dVar 1) (dCons (dVar 2) dNil)))))
    (dSeq (dIf (dtVal (d2 oIs (dVar 3) (dC .non))) (dRaiseF 13 [("at" : PySem.Str)] (dCons (dFldO 0 ("here" : PySem.Str) obOk_here) dNil)) dPass)
    (dSeq (dPutF 0 ("here" : PySem.Str) obOk_here (d2 fAdd (dFldO 0 ("here" : PySem.Str) obOk_here) (dC (.int 1))))
    (dRet (dMove 3)))))
def F_Reader_take_whole : FnT := mkFnX 4 3 den_Reader_take_whole
def den_Reader_take_picture : DS := (dSeq (dSet 1 (dMethO0 0 "due_word" 16 F_Reader_due_word []))
    (dSeq (dSet 2 (dC .non))
    (dSeq (dTry0 (isT ksT 13) (dSet 2 (dCall F_read_drawing [] (dCons (dVar 1) dNil))) (dSet 2 (dC .non)))
    (dSeq (dIf (dtVal (d2 oIs (dVar 2) (dC .non))) (dRaiseF 13 [("at" : PySem.Str)] (dCons (dFldO 0 ("here" : PySem.Str) obOk_here) dNil)) dPass)
    (dSeq (dPutF 0 ("here" : PySem.Str) obOk_here (d2 fAdd (dFldO 0 ("here" : PySem.Str) obOk_here) (dC (.int 1))))
    (dRet (dMove 2)))))))
def F_Reader_take_picture : FnT := mkFnX 3 1 den_Reader_take_picture
noncomputable def den_Reader_take_scene (F_Reader_take_parts : FnT) (F_Reader_take_scene : FnT) : DS := (dSeq (dIf (dtOr (dtVal (d2 oNe (dFr (dMethO0 0 "due_word" 16 F_Reader_due_word [])) (dC (.str ("(" : PySem.Str))))) (dtOr (dtVal (d2 oGt (dVar 1) (dC (.int 12)))) (dtVal (d2 oEq (dFldO 0 ("begun" : PySem.Str) obOk_begun) (dC (.int 60)))))) (dRaiseF 13 [("at" : PySem.Str)] (dCons (dFldO 0 ("here" : PySem.Str) obOk_here) dNil)) dPass)
    (dSeq (dPutF 0 ("begun" : PySem.Str) obOk_begun (d2 fAdd (dFldO 0 ("begun" : PySem.Str) obOk_begun) (dC (.int 1))))
    (dSeq (dPutF 0 ("here" : PySem.Str) obOk_here (d2 fAdd (dFldO 0 ("here" : PySem.Str) obOk_here) (dC (.int 1))))
    (dSeq (dSet 2 (dMethO 0 "take" 16 F_Reader_take [] (dCons (dTup (dCons (dC (.str ("still" : PySem.Str))) (dCons (dC (.str ("turn" : PySem.Str))) (dCons (dC (.str ("pane" : PySem.Str))) (dCons (dC (.str ("pile" : PySem.Str))) dNil))))) dNil)))
    (dSeq (dIf (dtVal (d2 oEq (dVar 2) (dC (.str ("still" : PySem.Str))))) (dSet 3 (dTup (dCons (dVar 2) (dCons (dFr (dMethO0 0 "take_picture" 16 F_Reader_take_picture [])) dNil)))) (dIf (dtVal (d2 oEq (dVar 2) (dC (.str ("turn" : PySem.Str))))) (dSet 3 (dTup (dCons (dVar 2) (dCons (dFr (dMethO 0 "take_whole" 16 F_Reader_take_whole [] (dCons (dC (.int 0)) (dCons (dC (.int 7)) dNil)))) (dCons (dFr (dMethO 0 "take_scene" 16 F_Reader_take_scene [] (dCons (d2 fAdd (dVar 1) (dC (.int 1))) dNil))) dNil))))) (dIf (dtVal (d2 oEq (dVar 2) (dC (.str ("pane" : PySem.Str))))) (dSeq (dSet 4 (dMethO 0 "take_whole" 16 F_Reader_take_whole [] (dCons (d1 (fU fun i => -i) (dC (.int 1000000000))) (dCons (dC (.int 1000000000)) dNil))))
    (dSeq (dSet 5 (dMethO 0 "take_whole" 16 F_Reader_take_whole [] (dCons (d1 (fU fun i => -i) (dC (.int 1000000000))) (dCons (dC (.int 1000000000)) dNil))))
    (dSeq (dSet 6 (dMethO 0 "take_whole" 16 F_Reader_take_whole [] (dCons (dC (.int 1)) (dCons (dC (.int 64)) dNil))))
    (dSet 3 (dTup (dCons (dVar 2) (dCons (dVar 4) (dCons (dVar 5) (dCons (dVar 6) (dCons (dFr (dMethO 0 "take_whole" 16 F_Reader_take_whole [] (dCons (dC (.int 1)) (dCons (dC (.int 64)) dNil)))) (dCons (dFr (dMethO 0 "take_scene" 16 F_Reader_take_scene [] (dCons (d2 fAdd (dVar 1) (dC (.int 1))) dNil))) dNil))))))))))) (dSeq (dSet 6 (dMethO 0 "take_whole" 16 F_Reader_take_whole [] (dCons (dC (.int 1)) (dCons (dC (.int 64)) dNil))))
    (dRet (dTup (dCons (dVar 2) (dCons (dVar 6) (dCons (dFr (dMethO 0 "take_whole" 16 F_Reader_take_whole [] (dCons (dC (.int 1)) (dCons (dC (.int 64)) dNil)))) (dCons (dFr (dMethO 0 "take_parts" 16 F_Reader_take_parts [] (dCons (d2 fAdd (dVar 1) (dC (.int 1))) dNil))) dNil))))))))))
    (dSeq (dDrop (dMethO 0 "take" 16 F_Reader_take [] (dCons (dTup (dCons (dC (.str (")" : PySem.Str))) dNil)) dNil)))
    (dRet (dMove 3))))))))
noncomputable def bd_Reader_take_parts_1 (F_Reader_take_scene : FnT) : DS := (dSeq (dSet 3 (dLc [4] (dgName 4) (diRange1 (dCons (dC (.int 5)) dNil)) dtYes (dFr (dMethO 0 "take_whole" 16 F_Reader_take_whole [] (dCons (d1 (fU fun i => -i) (dC (.int 1000000000))) (dCons (dC (.int 1000000000)) dNil))))))
    (dSeq (dDrop (dAppend 2 (d2 fAdd (dBi fTuple (dCons (dVar 3) dNil)) (dTup (dCons (dFr (dMethO 0 "take_scene" 16 F_Reader_take_scene [] (dCons (dVar 1) dNil))) dNil)))))
    (dDrop (dMethO 0 "take" 16 F_Reader_take [] (dCons (dTup (dCons (dC (.str (")" : PySem.Str))) dNil)) dNil)))))
noncomputable def den_Reader_take_parts (F_Reader_take_scene : FnT) : DS := (dSeq (dSet 2 (dLst dNil))
    (dSeq (dWhile (dtVal (d2 oEq (dFr (dMethO 0 "take" 16 F_Reader_take [] (dCons (dTup (dCons (dC (.str ("(" : PySem.Str))) (dCons (dC (.str (")" : PySem.Str))) dNil))) dNil))) (dC (.str ("(" : PySem.Str))))) (bd_Reader_take_parts_1 F_Reader_take_scene))
    (dRet (dBi fTuple (dCons (dVar 2) dNil)))))
mutual
noncomputable def Fr_Reader_take_scene : Nat → FnT
  | 0 => fun _ => .bad
  | n + 1 => mkFnX 7 2 (den_Reader_take_scene (Fr_Reader_take_parts n) (Fr_Reader_take_scene n))
noncomputable def Fr_Reader_take_parts : Nat → FnT
  | 0 => fun _ => .bad
  | n + 1 => mkFnX 5 2 (den_Reader_take_parts (Fr_Reader_take_scene n))
end
noncomputable def F_Reader_take_scene : FnT := Fr_Reader_take_scene 28
noncomputable def F_Reader_take_parts : FnT := Fr_Reader_take_parts 28
noncomputable def den_read_scene : DS := (dSeq (dSet 1 (dMake F_Reader_init 16 [] (dCons (dVar 0) dNil)))
    (dSeq (dSet 2 (dMethO 1 "take_scene" 16 F_Reader_take_scene [] (dCons (dC (.int 1)) dNil)))
    (dSeq (dIf (dtVal (d2 oLt (dFldO 1 ("here" : PySem.Str) obOk_here) (dBi fLen (dCons (dFldO 1 ("signs" : PySem.Str) obOk_signs) dNil)))) (dRaiseF 13 [("at" : PySem.Str)] (dCons (dFldO 1 ("here" : PySem.Str) obOk_here) dNil)) dPass)
    (dRet (dMove 2)))))
noncomputable def F_read_scene : FnT := mkFn 3 1 den_read_scene
def den_words_of : DS := (dRet (dT1 fJoin (dC (.str ("" : PySem.Str))) (dFr (dLc [1] (dgName 1) (diVal (dVar 0)) dtYes (d2 fAdd (dBi fStr (dCons (dVar 1) dNil)) (dC (.str (" " : PySem.Str))))))))
def F_words_of : FnT := mkFn 2 1 den_words_of
def den_scene_text (F_scene_text : FnT) : DS := (dSeq (dIf (dtVal (d2 oEq (dIxV 0 (dC (.int 0))) (dC (.str ("still" : PySem.Str))))) (dRet (d2 fAdd (d2 fAdd (dC (.str ("( still " : PySem.Str))) (dFr (dCall F_drawing_of [] (dCons (dIxV 0 (dC (.int 1))) dNil)))) (dC (.str (" )" : PySem.Str))))) dPass)
    (dSeq (dIf (dtVal (d2 oEq (dIxV 0 (dC (.int 0))) (dC (.str ("turn" : PySem.Str))))) (dRet (d2 fAdd (d2 fAdd (d2 fAdd (dC (.str ("( turn " : PySem.Str))) (dFr (dCall F_words_of [] (dCons (dFr (dSl (dVar 0) (doSome (dC (.int 1))) (doSome (dC (.int 2))))) dNil)))) (dFr (dCall F_scene_text [] (dCons (dIxV 0 (dC (.int 2))) dNil)))) (dC (.str (" )" : PySem.Str))))) dPass)
    (dSeq (dIf (dtVal (d2 oEq (dIxV 0 (dC (.int 0))) (dC (.str ("pane" : PySem.Str))))) (dRet (d2 fAdd (d2 fAdd (d2 fAdd (dC (.str ("( pane " : PySem.Str))) (dFr (dCall F_words_of [] (dCons (dFr (dSl (dVar 0) (doSome (dC (.int 1))) (doSome (dC (.int 5))))) dNil)))) (dFr (dCall F_scene_text [] (dCons (dIxV 0 (dC (.int 5))) dNil)))) (dC (.str (" )" : PySem.Str))))) dPass)
    (dSeq (dSet 1 (dLc [2] (dgName 2) (diVal (dIxV 0 (dC (.int 3)))) dtYes (d2 fAdd (d2 fAdd (d2 fAdd (dC (.str ("( " : PySem.Str))) (dFr (dCall F_words_of [] (dCons (dFr (dSl (dVar 2) doNone (doSome (dC (.int 5))))) dNil)))) (dFr (dCall F_scene_text [] (dCons (dIxV 2 (dC (.int 5))) dNil)))) (dC (.str (" ) " : PySem.Str))))))
    (dRet (d2 fAdd (d2 fAdd (d2 fAdd (dC (.str ("( pile " : PySem.Str))) (dFr (dCall F_words_of [] (dCons (dFr (dSl (dVar 0) (doSome (dC (.int 1))) (doSome (dC (.int 3))))) dNil)))) (dT1 fJoin (dC (.str ("" : PySem.Str))) (dVar 1))) (dC (.str (")" : PySem.Str)))))))))
def Fr_scene_text : Nat → FnT
  | 0 => fun _ => .bad
  | n + 1 => mkFn 3 1 (den_scene_text (Fr_scene_text n))
def F_scene_text : FnT := Fr_scene_text 16
def den_L_cell_at : DS := (dSeq (dIf (dtVal (d2 oLt (dVar 1) (dLenV 0))) (dRet (dIxV 0 (dVar 1))) dPass)
    (dRet (dC (.int 0))))
def F_L_cell_at : FnT := mkFn 2 2 den_L_cell_at
def den_L_pick : DS := (dSeq (dSet 3 (d2 oMod (d2 fMul (d2 fAdd (d2 fAdd (d2 oMod (dVar 0) (dC (.int 2147483647))) (dFr (d2 fMul (dFr (d2 fMul (dC (.int 31)) (dVar 1))) (dVar 1)))) (dC (.int 1))) (d2 fAdd (dC (.int 48271)) (dFr (d2 fMul (dC (.int 40)) (dVar 1))))) (dC (.int 2147483629))))
    (dRet (d2 oMod (d2 oDiv (dVar 3) (dC (.int 11))) (dVar 2))))
def F_L_pick : FnT := mkFn 4 3 den_L_pick
def bd_L_cells_1 : DS := (dDrop (dAppend 4 (d2 fAdd (dFr (d2 fAdd (dFr (d2 fMul (dVar 3) (dC (.int 3)))) (dFr (d2 fMul (dFr (d2 fMul (dC (.int 7919)) (dVar 5))) (dVar 5))))) (dC (.int 11)))))
def den_L_cells : DS := (dSeq (dSet 3 (dCall F_L_cell_at [] (dCons (dVar 0) (dCons (dC (.int 0)) dNil))))
    (dSeq (dSet 4 (dBi fList (dCons (dFr (dSl (dVar 0) (doSome (dVar 1)) (doSome (d2 fAdd (dVar 1) (dVar 2))))) dNil)))
    (dSeq (dFor (dgName 5) (diRange1 (dCons (dFr (dCall F_L_pick [] (dCons (dVar 3) (dCons (dC (.int 77)) (dCons (dVar 2) dNil))))) dNil)) bd_L_cells_1)
    (dRet (dSl (dVar 4) doNone (doSome (dVar 2)))))))
def F_L_cells : FnT := mkFn 6 3 den_L_cells
def bd_L_picture_1 : DS := (dIf (dtVal (d2 oIsNot (dIxV 3 (dVar 6)) (dC .non))) (dSeq (dSet 4 (d2 fAdd (dVar 4) (d2 oShl (dIxV 3 (dVar 6)) (dFr (d2 fMul (dC (.int 4)) (dVar 6))))))
    (dSet 5 (d2 fAdd (dVar 5) (d2 oShl (dC (.int 1)) (dVar 6))))) dPass)
def bd_L_picture_2 : DS := (dSeq (dSet 4 (dC (.int 0)))
    (dSeq (dSet 5 (dC (.int 0)))
    (dSeq (dFor (dgName 6) (diRange1 (dCons (dLenV 3) dNil)) bd_L_picture_1)
    (dSeq (dDrop (dAppend 1 (dVar 4)))
    (dDrop (dAppend 2 (dVar 5)))))))
def den_L_picture : DS := (dSeq (dSet 1 (dLst dNil))
    (dSeq (dSet 2 (dLst dNil))
    (dSeq (dFor (dgName 3) (diVal (dVar 0)) bd_L_picture_2)
    (dRet (dTup (dCons (dBi fLen (dCons (dIxV 0 (dC (.int 0))) dNil)) (dCons (dLenV 0) (dCons (dBi fTuple (dCons (dVar 1) dNil)) (dCons (dBi fTuple (dCons (dVar 2) dNil)) dNil)))))))))
def F_L_picture : FnT := mkFn 7 1 den_L_picture
def bd_L_pic_by_1 : DS := (dSeq (dSet 5 (dLc [6] (dgName 6) (diRange1 (dCons (dVar 1) dNil)) dtYes (dFr (dCall F_L_pick [] (dCons (dVar 0) (dCons (d2 fAdd (d2 fAdd (dC (.int 90)) (dFr (d2 fMul (dC (.int 20)) (dVar 4)))) (dVar 6)) (dCons (dC (.int 24)) dNil)))))))
    (dDrop (dAppend 3 (dLc [7] (dgName 7) (diVal (dVar 5)) dtYes (dFr (dIfE (dtVal (d2 oGt (dVar 7) (dC (.int 15)))) (dC .non) (dVar 7)))))))
def den_L_pic_by : DS := (dSeq (dSet 1 (d2 fAdd (dC (.int 1)) (dFr (dCall F_L_pick [] (dCons (dVar 0) (dCons (dC (.int 2)) (dCons (dC (.int 6)) dNil)))))))
    (dSeq (dSet 2 (d2 fAdd (dC (.int 1)) (dFr (dCall F_L_pick [] (dCons (dVar 0) (dCons (dC (.int 3)) (dCons (dC (.int 6)) dNil)))))))
    (dSeq (dIf (dtVal (d2 oEq (dFr (dCall F_L_pick [] (dCons (dVar 0) (dCons (dC (.int 4)) (dCons (dC (.int 24)) dNil))))) (dC (.int 3)))) (dSet 1 (dC (.int 20))) dPass)
    (dSeq (dSet 3 (dLst dNil))
    (dSeq (dFor (dgName 4) (diRange1 (dCons (dVar 2) dNil)) bd_L_pic_by_1)
    (dRet (dCall F_L_picture [] (dCons (dVar 3) dNil))))))))
def F_L_pic_by : FnT := mkFn 8 1 den_L_pic_by
def den_L_place : DS := (dSeq (dIf (dtVal (d2 oEq (dFr (dCall F_L_pick [] (dCons (dVar 0) (dCons (dVar 1) (dCons (dC (.int 12)) dNil))))) (dC (.int 5)))) (dRet (d2 fIx (dFr (dLst (dCons (d2 oPow (dC (.int 10)) (dC (.int 9))) (dCons (d1 (fU fun i => -i) (d2 oPow (dC (.int 10)) (dC (.int 9)))) (dCons (dC (.int 64)) (dCons (d1 (fU fun i => -i) (dC (.int 64))) dNil)))))) (dCall F_L_pick [] (dCons (dVar 0) (dCons (d2 fAdd (dVar 1) (dC (.int 1))) (dCons (dC (.int 4)) dNil)))))) dPass)
    (dRet (d2 oSub (dFr (dCall F_L_pick [] (dCons (dVar 0) (dCons (d2 fAdd (dVar 1) (dC (.int 1))) (dCons (dC (.int 9)) dNil))))) (dC (.int 3)))))
def F_L_place : FnT := mkFn 2 2 den_L_place
def den_L_size (F_L_size : FnT) : DS := (dSeq (dIf (dtVal (d2 oEq (dIxV 0 (dC (.int 0))) (dC (.str ("still" : PySem.Str))))) (dRet (dTup (dCons (d2 fIx (dIxV 0 (dC (.int 1))) (dC (.int 0))) (dCons (d2 fIx (dIxV 0 (dC (.int 1))) (dC (.int 1))) dNil)))) dPass)
    (dSeq (dIf (dtVal (d2 oEq (dIxV 0 (dC (.int 0))) (dC (.str ("pane" : PySem.Str))))) (dRet (dTup (dCons (dIxV 0 (dC (.int 3))) (dCons (dIxV 0 (dC (.int 4))) dNil)))) dPass)
    (dSeq (dIf (dtVal (d2 oEq (dIxV 0 (dC (.int 0))) (dC (.str ("pile" : PySem.Str))))) (dRet (dTup (dCons (dIxV 0 (dC (.int 1))) (dCons (dIxV 0 (dC (.int 2))) dNil)))) dPass)
    (dSeq (dAsg (dgTup (dgCons (dgName 1) (dgCons (dgName 2) dgNil))) (dFr (dCall F_L_size [] (dCons (dIxV 0 (dC (.int 2))) dNil))))
    (dRet (d2 fIx (dFr (dLst (dCons (dTup (dCons (dVar 1) (dCons (dVar 2) dNil))) (dCons (dTup (dCons (dVar 2) (dCons (dVar 1) dNil))) dNil)))) (d2 oMod (dIxV 0 (dC (.int 1))) (dC (.int 2)))))))))
def Fr_L_size : Nat → FnT
  | 0 => fun _ => .bad
  | n + 1 => mkFn 3 1 (den_L_size (Fr_L_size n))
def F_L_size : FnT := Fr_L_size 16
def den_L_part : DS := (dSeq (dSet 5 (d2 oSub (dFr (dCall F_L_pick [] (dCons (dVar 0) (dCons (dVar 1) (dCons (dC (.int 5)) dNil))))) (dC (.int 2))))
    (dSeq (dSet 6 (dTup (dCons (d2 oSub (dFr (dCall F_L_pick [] (dCons (dVar 0) (dCons (d2 fAdd (dVar 1) (dC (.int 1))) (dCons (dC (.int 7)) dNil))))) (dC (.int 3))) (dCons (d2 oSub (dFr (dCall F_L_pick [] (dCons (dVar 0) (dCons (d2 fAdd (dVar 1) (dC (.int 2))) (dCons (dC (.int 5)) dNil))))) (dC (.int 2))) dNil))))
    (dSeq (dIf (dtVal (d2 oEq (dFr (dCall F_L_pick [] (dCons (dVar 0) (dCons (d2 fAdd (dVar 1) (dC (.int 3))) (dCons (dC (.int 9)) dNil))))) (dC (.int 0)))) (dSeq (dSet 5 (d2 fIx (dFr (dLst (dCons (d2 oPow (dC (.int 10)) (dC (.int 9))) (dCons (d1 (fU fun i => -i) (d2 oPow (dC (.int 10)) (dC (.int 9)))) dNil)))) (dCall F_L_pick [] (dCons (dVar 0) (dCons (d2 fAdd (dVar 1) (dC (.int 4))) (dCons (dC (.int 2)) dNil))))))
    (dSet 6 (dTup (dCons (d2 oSub (d2 oPow (dC (.int 10)) (dC (.int 9))) (dFr (dCall F_L_pick [] (dCons (dVar 0) (dCons (d2 fAdd (dVar 1) (dC (.int 5))) (dCons (dC (.int 3)) dNil)))))) (dCons (d1 (fU fun i => -i) (d2 oPow (dC (.int 10)) (dC (.int 9)))) dNil))))) dPass)
    (dSeq (dSet 7 (dCall F_L_size [] (dCons (dVar 4) dNil)))
    (dSeq (dIf (dtOr (dtVal (d2 oEq (dFr (dCall F_L_pick [] (dCons (dVar 0) (dCons (d2 fAdd (dVar 1) (dC (.int 6))) (dCons (dC (.int 2)) dNil))))) (dC (.int 0)))) (dtOr (dtVal (d2 oGt (dIxV 7 (dC (.int 0))) (dVar 2))) (dtVal (d2 oGt (dIxV 7 (dC (.int 1))) (dVar 3))))) (dRet (dTup (dCons (dVar 5) (dCons (dFr (dCall F_L_place [] (dCons (dVar 0) (dCons (d2 fAdd (dVar 1) (dC (.int 7))) dNil)))) (dCons (dFr (dCall F_L_place [] (dCons (dVar 0) (dCons (d2 fAdd (dVar 1) (dC (.int 9))) dNil)))) (dCons (dC (.int 0)) (dCons (dC (.int 0)) (dCons (dVar 4) dNil)))))))) dPass)
    (dSeq (dSet 8 (dCall F_L_pick [] (dCons (dVar 0) (dCons (d2 fAdd (dVar 1) (dC (.int 11))) (dCons (d2 fAdd (d2 oSub (dVar 2) (dIxV 7 (dC (.int 0)))) (dC (.int 1))) dNil)))))
    (dSeq (dSet 9 (dCall F_L_pick [] (dCons (dVar 0) (dCons (d2 fAdd (dVar 1) (dC (.int 12))) (dCons (d2 fAdd (d2 oSub (dVar 3) (dIxV 7 (dC (.int 1)))) (dC (.int 1))) dNil)))))
    (dRet (d2 fAdd (dFr (d2 fAdd (dTup (dCons (dVar 5) (dCons (dVar 8) (dCons (dVar 9) dNil)))) (dVar 6))) (dTup (dCons (dVar 4) dNil)))))))))))
def F_L_part : FnT := mkFn 10 5 den_L_part
def bd_L_scene_1 (F_L_scene : FnT) : DS := (dSeq (dAsg (dgTup (dgCons (dgName 5) (dgCons (dgName 6) dgNil))) (dFr (dCall F_L_scene [] (dCons (dVar 0) (dCons (dVar 6) (dCons (d2 oSub (dVar 2) (dC (.int 1))) dNil))))))
    (dDrop (dAppend 9 (dCall F_L_part [] (dCons (dVar 3) (dCons (d2 fAdd (dC (.int 20)) (dFr (d2 fMul (dC (.int 20)) (dVar 10)))) (dCons (dVar 7) (dCons (dVar 8) (dCons (dVar 5) dNil)))))))))
def den_L_scene (F_L_scene : FnT) : DS := (dSeq (dSet 3 (dCall F_L_cell_at [] (dCons (dVar 0) (dCons (dVar 1) dNil))))
    (dSeq (dSet 4 (dCall F_L_pick [] (dCons (dVar 3) (dCons (dC (.int 1)) (dCons (dC (.int 10)) dNil)))))
    (dSeq (dIf (dtOr (dtVal (d2 oEq (dVar 2) (dC (.int 0)))) (dtOr (dtVal (d2 oLt (dVar 4) (dC (.int 3)))) (dtVal (d2 oGt (dVar 1) (dC (.int 16)))))) (dRet (dTup (dCons (dTup (dCons (dC (.str ("still" : PySem.Str))) (dCons (dFr (dCall F_L_pic_by [] (dCons (dVar 3) dNil))) dNil))) (dCons (d2 fAdd (dVar 1) (dC (.int 1))) dNil)))) dPass)
    (dSeq (dIf (dtVal (d2 oLt (dVar 4) (dC (.int 5)))) (dSeq (dAsg (dgTup (dgCons (dgName 5) (dgCons (dgName 6) dgNil))) (dFr (dCall F_L_scene [] (dCons (dVar 0) (dCons (d2 fAdd (dVar 1) (dC (.int 1))) (dCons (d2 oSub (dVar 2) (dC (.int 1))) dNil))))))
    (dRet (dTup (dCons (dTup (dCons (dC (.str ("turn" : PySem.Str))) (dCons (dFr (dCall F_L_pick [] (dCons (dVar 3) (dCons (dC (.int 5)) (dCons (dC (.int 8)) dNil))))) (dCons (dVar 5) dNil)))) (dCons (dVar 6) dNil))))) dPass)
    (dSeq (dSet 7 (d2 fAdd (dC (.int 1)) (dFr (dCall F_L_pick [] (dCons (dVar 3) (dCons (dC (.int 6)) (dCons (dC (.int 7)) dNil)))))))
    (dSeq (dSet 8 (d2 fAdd (dC (.int 1)) (dFr (dCall F_L_pick [] (dCons (dVar 3) (dCons (dC (.int 7)) (dCons (dC (.int 7)) dNil)))))))
    (dSeq (dIf (dtVal (d2 oEq (dVar 4) (dC (.int 5)))) (dSeq (dAsg (dgTup (dgCons (dgName 5) (dgCons (dgName 6) dgNil))) (dFr (dCall F_L_scene [] (dCons (dVar 0) (dCons (d2 fAdd (dVar 1) (dC (.int 1))) (dCons (d2 oSub (dVar 2) (dC (.int 1))) dNil))))))
    (dRet (dTup (dCons (dTup (dCons (dC (.str ("pane" : PySem.Str))) (dCons (dFr (dCall F_L_place [] (dCons (dVar 3) (dCons (dC (.int 8)) dNil)))) (dCons (dFr (dCall F_L_place [] (dCons (dVar 3) (dCons (dC (.int 10)) dNil)))) (dCons (dVar 7) (dCons (dVar 8) (dCons (dVar 5) dNil))))))) (dCons (dVar 6) dNil))))) dPass)
    (dSeq (dSet 9 (dLst dNil))
    (dSeq (dSet 6 (d2 fAdd (dVar 1) (dC (.int 1))))
    (dSeq (dFor (dgName 10) (diRange1 (dCons (dFr (dCall F_L_pick [] (dCons (dVar 3) (dCons (dC (.int 12)) (dCons (dC (.int 4)) dNil))))) dNil)) (bd_L_scene_1 F_L_scene))
    (dRet (dTup (dCons (dTup (dCons (dC (.str ("pile" : PySem.Str))) (dCons (dVar 7) (dCons (dVar 8) (dCons (dBi fTuple (dCons (dVar 9) dNil)) dNil))))) (dCons (dVar 6) dNil))))))))))))))
def Fr_L_scene : Nat → FnT
  | 0 => fun _ => .bad
  | n + 1 => mkFn 11 3 (den_L_scene (Fr_L_scene n))
def F_L_scene : FnT := Fr_L_scene 16
def bd_L_bent_1 (F_L_bent : FnT) : DS := (dSeq (dSet 5 (d2 fAdd (dFr (d2 fAdd (dFr (d2 fMul (dVar 1) (dC (.int 5)))) (dFr (d2 fMul (dC (.int 7)) (dVar 3))))) (dC (.int 2))))
    (dSeq (dSet 6 (dCall F_L_bent [] (dCons (dIxV 4 (dC (.int 5))) (dCons (dVar 5) dNil))))
    (dSeq (dSet 7 (dCall F_L_size [] (dCons (dVar 6) dNil)))
    (dSeq (dSet 8 (dLst (dCons (dTup (dCons (d1 (fU fun i => -i) (dC (.int 1))) (dCons (dC (.int 0)) dNil))) (dCons (dTup (dCons (d2 fAdd (d2 oSub (dIxV 0 (dC (.int 1))) (dIxV 7 (dC (.int 0)))) (dC (.int 1))) (dCons (dC (.int 0)) dNil))) (dCons (dTup (dCons (dC (.int 0)) (dCons (d1 (fU fun i => -i) (d2 oPow (dC (.int 10)) (dC (.int 9)))) dNil))) (dCons (dTup (dCons (dC (.int 0)) (dCons (d2 oPow (dC (.int 10)) (dC (.int 9))) dNil))) dNil))))))
    (dIf (dtVal (d2 oEq (dFr (dCall F_L_pick [] (dCons (dVar 5) (dCons (dC (.int 13)) (dCons (dC (.int 4)) dNil))))) (dC (.int 0)))) (dDrop (dAppend 2 (d2 fAdd (d2 fAdd (dTup (dCons (dIxV 4 (dC (.int 0))) dNil)) (dIxV 8 (dCall F_L_pick [] (dCons (dVar 5) (dCons (dC (.int 14)) (dCons (dC (.int 4)) dNil)))))) (dTup (dCons (dC (.int 0)) (dCons (dC (.int 1)) (dCons (dVar 6) dNil))))))) (dDrop (dAppend 2 (d2 fAdd (dFr (dSl (dVar 4) doNone (doSome (dC (.int 5))))) (dTup (dCons (dVar 6) dNil))))))))))
def den_L_bent (F_L_bent : FnT) : DS := (dSeq (dIf (dtVal (d2 oEq (dIxV 0 (dC (.int 0))) (dC (.str ("still" : PySem.Str))))) (dRet (dMove 0)) dPass)
    (dSeq (dIf (dtVal (d2 oNe (dIxV 0 (dC (.int 0))) (dC (.str ("pile" : PySem.Str))))) (dRet (d2 fAdd (dFr (dSl (dVar 0) doNone (doSome (d2 oSub (dLenV 0) (dC (.int 1)))))) (dTup (dCons (dFr (dCall F_L_bent [] (dCons (dIxV 0 (d2 oSub (dLenV 0) (dC (.int 1)))) (dCons (d2 fAdd (dFr (d2 fMul (dVar 1) (dC (.int 3)))) (dC (.int 1))) dNil)))) dNil)))) dPass)
    (dSeq (dSet 2 (dLst dNil))
    (dSeq (dFor (dgTup (dgCons (dgName 3) (dgCons (dgName 4) dgNil))) (diEnumT (dCons (dIxV 0 (dC (.int 3))) dNil)) (bd_L_bent_1 F_L_bent))
    (dRet (d2 fAdd (dFr (dSl (dVar 0) doNone (doSome (dC (.int 3))))) (dTup (dCons (dBi fTuple (dCons (dVar 2) dNil)) dNil))))))))
def Fr_L_bent : Nat → FnT
  | 0 => fun _ => .bad
  | n + 1 => mkFn 9 2 (den_L_bent (Fr_L_bent n))
def F_L_bent : FnT := Fr_L_bent 16
def bd_L_drawing_1 : DS := (dSeq (dSet 5 (dLc [6] (dgName 6) (diRange1 (dCons (dIxV 0 (dC (.int 0))) dNil)) dtYes (dIfE (dtVal (d2 oEq (d2 oAnd (d2 oShr (dVar 4) (dVar 6)) (dC (.int 1))) (dC (.int 1)))) (d2 oAnd (d2 oShr (dVar 3) (dFr (d2 fMul (dC (.int 4)) (dVar 6)))) (dC (.int 15))) (dC .non))))
    (dDrop (dAppend 2 (dT1 fJoin (dC (.str ("" : PySem.Str))) (dFr (dLc [7] (dgName 7) (diVal (dVar 5)) dtYes (dIfE (dtVal (d2 oIs (dVar 7) (dC .non))) (dC (.str ("." : PySem.Str))) (dIxV 1 (dVar 7)))))))))
def den_L_drawing : DS := (dSeq (dSet 1 (dC (.str ("0123456789abcdef" : PySem.Str))))
    (dSeq (dSet 2 (dLst dNil))
    (dSeq (dFor (dgTup (dgCons (dgName 3) (dgCons (dgName 4) dgNil))) (diZipT (dCons (dIxV 0 (dC (.int 2))) (dCons (dIxV 0 (dC (.int 3))) dNil))) bd_L_drawing_1)
    (dRet (dT1 fJoin (dC (.str ("/" : PySem.Str))) (dVar 2))))))
def F_L_drawing : FnT := mkFn 8 1 den_L_drawing
def bd_L_words_1 (F_L_words : FnT) : DS := (dSet 3 (d2 fAdd (dFr (d2 fAdd (dFr (d2 fAdd (dFr (d2 fAdd (dVar 3) (dFr (dLst (dCons (dC (.str ("(" : PySem.Str))) dNil))))) (dFr (dLc [2] (dgName 2) (diVal (dFr (dSl (dVar 4) doNone (doSome (dC (.int 5)))))) dtYes (dBi fStr (dCons (dVar 2) dNil)))))) (dFr (dCall F_L_words [] (dCons (dIxV 4 (dC (.int 5))) dNil))))) (dFr (dLst (dCons (dC (.str (")" : PySem.Str))) dNil)))))
def den_L_words (F_L_words : FnT) : DS := (dSeq (dIf (dtVal (d2 oEq (dIxV 0 (dC (.int 0))) (dC (.str ("still" : PySem.Str))))) (dRet (dLst (dCons (dC (.str ("(" : PySem.Str))) (dCons (dC (.str ("still" : PySem.Str))) (dCons (dFr (dCall F_L_drawing [] (dCons (dIxV 0 (dC (.int 1))) dNil))) (dCons (dC (.str (")" : PySem.Str))) dNil)))))) dPass)
    (dSeq (dIf (dtVal (d2 oNe (dIxV 0 (dC (.int 0))) (dC (.str ("pile" : PySem.Str))))) (dSeq (dSet 1 (dLc [2] (dgName 2) (diVal (dFr (dSl (dVar 0) (doSome (dC (.int 1))) (doSome (d2 oSub (dLenV 0) (dC (.int 1))))))) dtYes (dBi fStr (dCons (dVar 2) dNil))))
    (dRet (d2 fAdd (dFr (d2 fAdd (dFr (d2 fAdd (dFr (dLst (dCons (dC (.str ("(" : PySem.Str))) (dCons (dIxV 0 (dC (.int 0))) dNil)))) (dVar 1))) (dFr (dCall F_L_words [] (dCons (dIxV 0 (d2 oSub (dLenV 0) (dC (.int 1)))) dNil))))) (dFr (dLst (dCons (dC (.str (")" : PySem.Str))) dNil)))))) dPass)
    (dSeq (dSet 3 (dLst (dCons (dC (.str ("(" : PySem.Str))) (dCons (dC (.str ("pile" : PySem.Str))) (dCons (dBi fStr (dCons (dIxV 0 (dC (.int 1))) dNil)) (dCons (dBi fStr (dCons (dIxV 0 (dC (.int 2))) dNil)) dNil))))))
    (dSeq (dFor (dgName 4) (diVal (dIxV 0 (dC (.int 3)))) (bd_L_words_1 F_L_words))
    (dRet (d2 fAdd (dVar 3) (dFr (dLst (dCons (dC (.str (")" : PySem.Str))) dNil)))))))))
def Fr_L_words : Nat → FnT
  | 0 => fun _ => .bad
  | n + 1 => mkFn 5 1 (den_L_words (Fr_L_words n))
def F_L_words : FnT := Fr_L_words 16
def bd_L_great_1 : DS := (dSet 1 (dTup (dCons (dC (.str ("turn" : PySem.Str))) (dCons (dFr (dCall F_L_pick [] (dCons (dVar 0) (dCons (d2 fAdd (dC (.int 20)) (dVar 3)) (dCons (dC (.int 8)) dNil))))) (dCons (dVar 1) dNil)))))
def den_L_great : DS := (dSeq (dSet 2 (dCall F_L_pick [] (dCons (dVar 0) (dCons (dC (.int 1)) (dCons (dC (.int 8)) dNil)))))
    (dSeq (dIf (dtVal (d2 oEq (dVar 2) (dC (.int 3)))) (dSeq (dSet 1 (dTup (dCons (dC (.str ("still" : PySem.Str))) (dCons (dFr (dCall F_L_pic_by [] (dCons (dVar 0) dNil))) dNil))))
    (dFor (dgName 3) (diRange1 (dCons (dC (.int 11)) dNil)) bd_L_great_1)) dPass)
    (dSeq (dIf (dtVal (d2 oEq (dVar 2) (dC (.int 4)))) (dSeq (dSet 4 (dTup (dCons (dC (.str ("still" : PySem.Str))) (dCons (dFr (dCall F_L_pic_by [] (dCons (dVar 0) dNil))) dNil))))
    (dSeq (dSet 5 (dLc [3] (dgName 3) (diRange1 (dCons (dC (.int 59)) dNil)) dtYes (dFr (dCall F_L_part [] (dCons (dVar 0) (dCons (d2 fAdd (dC (.int 20)) (dFr (d2 fMul (dC (.int 20)) (dVar 3)))) (dCons (dC (.int 7)) (dCons (dC (.int 7)) (dCons (dVar 4) dNil)))))))))
    (dSet 1 (dTup (dCons (dC (.str ("pile" : PySem.Str))) (dCons (dC (.int 7)) (dCons (dC (.int 7)) (dCons (dBi fTuple (dCons (dVar 5) dNil)) dNil)))))))) dPass)
    (dRet (dMove 1)))))
def F_L_great : FnT := mkFn 6 2 den_L_great
noncomputable def bd_law_1 : DS := (dSeq (dSet 4 (dT1 fJoin (dC (.str (" " : PySem.Str))) (dFr (dCall F_L_words [] (dCons (dVar 3) dNil)))))
    (dSeq (dSet 5 (dCall F_scene_text [] (dCons (dVar 3) dNil)))
    (dIf (dtOr (dtNot (dtVal (dBi fIsi (dCons (dVar 5) (dCons (dC (.ty "str")) dNil))))) (dtOr (dtVal (d2 oNe (dVar 5) (dVar 4))) (dtVal (d2 oNe (dBi fRepr (dCons (dFr (dCall F_read_scene [] (dCons (dVar 4) dNil))) dNil)) (dBi fRepr (dCons (dVar 3) dNil)))))) (dRet (dC (.bl false))) dPass)))
noncomputable def den_law : DS := (dSeq (dSet 1 (dCall F_L_cell_at [] (dCons (dVar 0) (dCons (dC (.int 0)) dNil))))
    (dSeq (dSet 2 (dCall F_L_great [] (dCons (dVar 1) (dCons (d2 fIx (dFr (dCall F_L_scene [] (dCons (dFr (dCall F_L_cells [] (dCons (dVar 0) (dCons (dC (.int 1)) (dCons (dC (.int 40)) dNil))))) (dCons (dC (.int 0)) (dCons (dC (.int 4)) dNil))))) (dC (.int 0))) dNil))))
    (dSeq (dFor (dgName 3) (diVal (dFr (dLst (dCons (dVar 2) (dCons (dFr (dCall F_L_bent [] (dCons (dVar 2) (dCons (d2 oMod (dVar 1) (dC (.int 1000003))) dNil)))) (dCons (dVar 2) dNil)))))) bd_law_1)
    (dRet (dC (.bl true))))))
noncomputable def F_law : FnT := mkFn 6 1 den_law
abbrev s_is_whole : Stmt := top 5
theorem sc_is_whole : FnScope [("thing" : PySem.Str)] [("thing" : PySem.Str)] (defScope s_is_whole) := ⟨rfl, rfl, rfl, by decide +kernel, rfl, by decide +kernel, by decide +kernel⟩
abbrev s_is_cell : Stmt := top 9
theorem sc_is_cell : FnScope [("thing" : PySem.Str)] [("thing" : PySem.Str)] (defScope s_is_cell) := ⟨rfl, rfl, rfl, by decide +kernel, rfl, by decide +kernel, by decide +kernel⟩
abbrev s_is_row : Stmt := top 10
theorem sc_is_row : FnScope [("thing" : PySem.Str), ("wide" : PySem.Str), ("one" : PySem.Str)] [("thing" : PySem.Str), ("wide" : PySem.Str)] (defScope s_is_row) := ⟨rfl, rfl, rfl, by decide +kernel, rfl, by decide +kernel, by decide +kernel⟩
abbrev s_row_bits : Stmt := top 11
theorem sc_row_bits : FnScope [("row" : PySem.Str), ("paint" : PySem.Str), ("mask" : PySem.Str), ("x" : PySem.Str)] [("row" : PySem.Str)] (defScope s_row_bits) := ⟨rfl, rfl, rfl, by decide +kernel, rfl, by decide +kernel, by decide +kernel⟩
abbrev s_pictured : Stmt := top 12
theorem sc_pictured : FnScope [("rows" : PySem.Str), ("wide" : PySem.Str), ("at" : PySem.Str), ("bits" : PySem.Str), ("row" : PySem.Str), ("paints" : PySem.Str), ("one" : PySem.Str)] [("rows" : PySem.Str)] (defScope s_pictured) := ⟨rfl, rfl, rfl, by decide +kernel, rfl, by decide +kernel, by decide +kernel⟩
abbrev s_cell_in : Stmt := top 13
theorem sc_cell_in : FnScope [("paint" : PySem.Str), ("mask" : PySem.Str), ("x" : PySem.Str)] [("paint" : PySem.Str), ("mask" : PySem.Str), ("x" : PySem.Str)] (defScope s_cell_in) := ⟨rfl, rfl, rfl, by decide +kernel, rfl, by decide +kernel, by decide +kernel⟩
abbrev s_rows_of : Stmt := top 14
theorem sc_rows_of : FnScope [("pic" : PySem.Str), ("rows" : PySem.Str), ("y" : PySem.Str), ("x" : PySem.Str)] [("pic" : PySem.Str)] (defScope s_rows_of) := ⟨rfl, rfl, rfl, by decide +kernel, rfl, by decide +kernel, by decide +kernel⟩
abbrev s_cells_by : Stmt := top 17
theorem sc_cells_by : FnScope [("row" : PySem.Str), ("cells" : PySem.Str), ("sign" : PySem.Str)] [("row" : PySem.Str)] (defScope s_cells_by) := ⟨rfl, rfl, rfl, by decide +kernel, rfl, by decide +kernel, by decide +kernel⟩
abbrev s_read_drawing : Stmt := top 18
theorem sc_read_drawing : FnScope [("text" : PySem.Str), ("rows" : PySem.Str), ("row" : PySem.Str), ("found" : PySem.Str)] [("text" : PySem.Str)] (defScope s_read_drawing) := ⟨rfl, rfl, rfl, by decide +kernel, rfl, by decide +kernel, by decide +kernel⟩
abbrev s_row_text : Stmt := top 19
theorem sc_row_text : FnScope [("row" : PySem.Str), ("one" : PySem.Str)] [("row" : PySem.Str)] (defScope s_row_text) := ⟨rfl, rfl, rfl, by decide +kernel, rfl, by decide +kernel, by decide +kernel⟩
abbrev s_drawing_of : Stmt := top 20
theorem sc_drawing_of : FnScope [("pic" : PySem.Str), ("row" : PySem.Str)] [("pic" : PySem.Str)] (defScope s_drawing_of) := ⟨rfl, rfl, rfl, by decide +kernel, rfl, by decide +kernel, by decide +kernel⟩
abbrev s_whole_in : Stmt := top 25
theorem sc_whole_in : FnScope [("word" : PySem.Str), ("low" : PySem.Str), ("high" : PySem.Str), ("figures" : PySem.Str), ("sign" : PySem.Str), ("number" : PySem.Str)] [("word" : PySem.Str), ("low" : PySem.Str), ("high" : PySem.Str)] (defScope s_whole_in) := ⟨rfl, rfl, rfl, by decide +kernel, rfl, by decide +kernel, by decide +kernel⟩
abbrev s_Reader_init : Stmt := inClass (top 26) 0
theorem sc_Reader_init : FnScope [("self" : PySem.Str), ("text" : PySem.Str)] [("self" : PySem.Str), ("text" : PySem.Str)] (defScope s_Reader_init) := ⟨rfl, rfl, rfl, by decide +kernel, rfl, by decide +kernel, by decide +kernel⟩
abbrev s_Reader_due_word : Stmt := inClass (top 26) 1
theorem sc_Reader_due_word : FnScope [("self" : PySem.Str)] [("self" : PySem.Str)] (defScope s_Reader_due_word) := ⟨rfl, rfl, rfl, by decide +kernel, rfl, by decide +kernel, by decide +kernel⟩
abbrev s_Reader_take : Stmt := inClass (top 26) 2
theorem sc_Reader_take : FnScope [("self" : PySem.Str), ("wanted" : PySem.Str), ("word" : PySem.Str)] [("self" : PySem.Str), ("wanted" : PySem.Str)] (defScope s_Reader_take) := ⟨rfl, rfl, rfl, by decide +kernel, rfl, by decide +kernel, by decide +kernel⟩
abbrev s_Reader_take_whole : Stmt := inClass (top 26) 3
theorem sc_Reader_take_whole : FnScope [("self" : PySem.Str), ("low" : PySem.Str), ("high" : PySem.Str), ("number" : PySem.Str)] [("self" : PySem.Str), ("low" : PySem.Str), ("high" : PySem.Str)] (defScope s_Reader_take_whole) := ⟨rfl, rfl, rfl, by decide +kernel, rfl, by decide +kernel, by decide +kernel⟩
abbrev s_Reader_take_picture : Stmt := inClass (top 26) 4
theorem sc_Reader_take_picture : FnScope [("self" : PySem.Str), ("word" : PySem.Str), ("pic" : PySem.Str)] [("self" : PySem.Str)] (defScope s_Reader_take_picture) := ⟨rfl, rfl, rfl, by decide +kernel, rfl, by decide +kernel, by decide +kernel⟩
abbrev s_Reader_take_scene : Stmt := inClass (top 26) 5
theorem sc_Reader_take_scene : FnScope [("self" : PySem.Str), ("deep" : PySem.Str), ("kind" : PySem.Str), ("scene" : PySem.Str), ("x" : PySem.Str), ("y" : PySem.Str), ("wide" : PySem.Str)] [("self" : PySem.Str), ("deep" : PySem.Str)] (defScope s_Reader_take_scene) := ⟨rfl, rfl, rfl, by decide +kernel, rfl, by decide +kernel, by decide +kernel⟩
abbrev s_Reader_take_parts : Stmt := inClass (top 26) 6
theorem sc_Reader_take_parts : FnScope [("self" : PySem.Str), ("deep" : PySem.Str), ("parts" : PySem.Str), ("places" : PySem.Str), ("turn" : PySem.Str)] [("self" : PySem.Str), ("deep" : PySem.Str)] (defScope s_Reader_take_parts) := ⟨rfl, rfl, rfl, by decide +kernel, rfl, by decide +kernel, by decide +kernel⟩
abbrev s_read_scene : Stmt := top 27
theorem sc_read_scene : FnScope [("text" : PySem.Str), ("reader" : PySem.Str), ("scene" : PySem.Str)] [("text" : PySem.Str)] (defScope s_read_scene) := ⟨rfl, rfl, rfl, by decide +kernel, rfl, by decide +kernel, by decide +kernel⟩
abbrev s_words_of : Stmt := top 28
theorem sc_words_of : FnScope [("some" : PySem.Str), ("one" : PySem.Str)] [("some" : PySem.Str)] (defScope s_words_of) := ⟨rfl, rfl, rfl, by decide +kernel, rfl, by decide +kernel, by decide +kernel⟩
abbrev s_scene_text : Stmt := top 29
theorem sc_scene_text : FnScope [("scene" : PySem.Str), ("parts" : PySem.Str), ("part" : PySem.Str)] [("scene" : PySem.Str)] (defScope s_scene_text) := ⟨rfl, rfl, rfl, by decide +kernel, rfl, by decide +kernel, by decide +kernel⟩
abbrev s_L_cell_at : Stmt := top 31
theorem sc_L_cell_at : FnScope [("_law_script" : PySem.Str), ("_law_k" : PySem.Str)] [("_law_script" : PySem.Str), ("_law_k" : PySem.Str)] (defScope s_L_cell_at) := ⟨rfl, rfl, rfl, by decide +kernel, rfl, by decide +kernel, by decide +kernel⟩
abbrev s_L_pick : Stmt := top 32
theorem sc_L_pick : FnScope [("_law_number" : PySem.Str), ("_law_turn" : PySem.Str), ("_law_many" : PySem.Str), ("_law_mixed" : PySem.Str)] [("_law_number" : PySem.Str), ("_law_turn" : PySem.Str), ("_law_many" : PySem.Str)] (defScope s_L_pick) := ⟨rfl, rfl, rfl, by decide +kernel, rfl, by decide +kernel, by decide +kernel⟩
abbrev s_L_cells : Stmt := top 33
theorem sc_L_cells : FnScope [("_law_script" : PySem.Str), ("_law_first" : PySem.Str), ("_law_most" : PySem.Str), ("_law_cell" : PySem.Str), ("_law_some" : PySem.Str), ("_law_j" : PySem.Str)] [("_law_script" : PySem.Str), ("_law_first" : PySem.Str), ("_law_most" : PySem.Str)] (defScope s_L_cells) := ⟨rfl, rfl, rfl, by decide +kernel, rfl, by decide +kernel, by decide +kernel⟩
abbrev s_L_picture : Stmt := top 34
theorem sc_L_picture : FnScope [("_law_rows" : PySem.Str), ("_law_paints" : PySem.Str), ("_law_masks" : PySem.Str), ("_law_row" : PySem.Str), ("_law_paint" : PySem.Str), ("_law_mask" : PySem.Str), ("_law_x" : PySem.Str)] [("_law_rows" : PySem.Str)] (defScope s_L_picture) := ⟨rfl, rfl, rfl, by decide +kernel, rfl, by decide +kernel, by decide +kernel⟩
abbrev s_L_pic_by : Stmt := top 35
theorem sc_L_pic_by : FnScope [("_law_cell" : PySem.Str), ("_law_wide" : PySem.Str), ("_law_high" : PySem.Str), ("_law_rows" : PySem.Str), ("_law_y" : PySem.Str), ("_law_row" : PySem.Str), ("_law_x" : PySem.Str), ("_law_one" : PySem.Str)] [("_law_cell" : PySem.Str)] (defScope s_L_pic_by) := ⟨rfl, rfl, rfl, by decide +kernel, rfl, by decide +kernel, by decide +kernel⟩
abbrev s_L_place : Stmt := top 36
theorem sc_L_place : FnScope [("_law_cell" : PySem.Str), ("_law_turn" : PySem.Str)] [("_law_cell" : PySem.Str), ("_law_turn" : PySem.Str)] (defScope s_L_place) := ⟨rfl, rfl, rfl, by decide +kernel, rfl, by decide +kernel, by decide +kernel⟩
abbrev s_L_size : Stmt := top 37
theorem sc_L_size : FnScope [("_law_scene_here" : PySem.Str), ("_law_wide" : PySem.Str), ("_law_high" : PySem.Str)] [("_law_scene_here" : PySem.Str)] (defScope s_L_size) := ⟨rfl, rfl, rfl, by decide +kernel, rfl, by decide +kernel, by decide +kernel⟩
abbrev s_L_part : Stmt := top 38
theorem sc_L_part : FnScope [("_law_cell" : PySem.Str), ("_law_turn" : PySem.Str), ("_law_wide" : PySem.Str), ("_law_high" : PySem.Str), ("_law_inner" : PySem.Str), ("_law_rank" : PySem.Str), ("_law_speeds" : PySem.Str), ("_law_sides" : PySem.Str), ("_law_x" : PySem.Str), ("_law_y" : PySem.Str)] [("_law_cell" : PySem.Str), ("_law_turn" : PySem.Str), ("_law_wide" : PySem.Str), ("_law_high" : PySem.Str), ("_law_inner" : PySem.Str)] (defScope s_L_part) := ⟨rfl, rfl, rfl, by decide +kernel, rfl, by decide +kernel, by decide +kernel⟩
abbrev s_L_scene : Stmt := top 39
theorem sc_L_scene : FnScope [("_law_script" : PySem.Str), ("_law_k" : PySem.Str), ("_law_deep" : PySem.Str), ("_law_cell" : PySem.Str), ("_law_way" : PySem.Str), ("_law_inner" : PySem.Str), ("_law_behind" : PySem.Str), ("_law_wide" : PySem.Str), ("_law_high" : PySem.Str), ("_law_parts" : PySem.Str), ("_law_j" : PySem.Str)] [("_law_script" : PySem.Str), ("_law_k" : PySem.Str), ("_law_deep" : PySem.Str)] (defScope s_L_scene) := ⟨rfl, rfl, rfl, by decide +kernel, rfl, by decide +kernel, by decide +kernel⟩
abbrev s_L_bent : Stmt := top 40
theorem sc_L_bent : FnScope [("_law_scene_here" : PySem.Str), ("_law_cell" : PySem.Str), ("_law_parts" : PySem.Str), ("_law_number" : PySem.Str), ("_law_part_here" : PySem.Str), ("_law_one" : PySem.Str), ("_law_inner" : PySem.Str), ("_law_sides" : PySem.Str), ("_law_places" : PySem.Str)] [("_law_scene_here" : PySem.Str), ("_law_cell" : PySem.Str)] (defScope s_L_bent) := ⟨rfl, rfl, rfl, by decide +kernel, rfl, by decide +kernel, by decide +kernel⟩
abbrev s_L_drawing : Stmt := top 41
theorem sc_L_drawing : FnScope [("_law_pic" : PySem.Str), ("_law_signs" : PySem.Str), ("_law_texts" : PySem.Str), ("_law_paint" : PySem.Str), ("_law_mask" : PySem.Str), ("_law_row" : PySem.Str), ("_law_x" : PySem.Str), ("_law_one" : PySem.Str)] [("_law_pic" : PySem.Str)] (defScope s_L_drawing) := ⟨rfl, rfl, rfl, by decide +kernel, rfl, by decide +kernel, by decide +kernel⟩
abbrev s_L_words : Stmt := top 42
theorem sc_L_words : FnScope [("_law_scene_here" : PySem.Str), ("_law_numbers" : PySem.Str), ("_law_one" : PySem.Str), ("_law_words_here" : PySem.Str), ("_law_part_here" : PySem.Str)] [("_law_scene_here" : PySem.Str)] (defScope s_L_words) := ⟨rfl, rfl, rfl, by decide +kernel, rfl, by decide +kernel, by decide +kernel⟩
abbrev s_L_great : Stmt := top 43
theorem sc_L_great : FnScope [("_law_cell" : PySem.Str), ("_law_scene_here" : PySem.Str), ("_law_way" : PySem.Str), ("_law_k" : PySem.Str), ("_law_one" : PySem.Str), ("_law_parts" : PySem.Str)] [("_law_cell" : PySem.Str), ("_law_scene_here" : PySem.Str)] (defScope s_L_great) := ⟨rfl, rfl, rfl, by decide +kernel, rfl, by decide +kernel, by decide +kernel⟩
abbrev s_law : Stmt := top 44
theorem sc_law : FnScope [("_law_script" : PySem.Str), ("_law_cell" : PySem.Str), ("_law_scene_here" : PySem.Str), ("_law_one" : PySem.Str), ("_law_text" : PySem.Str), ("_law_found" : PySem.Str)] [("_law_script" : PySem.Str)] (defScope s_law) := ⟨rfl, rfl, rfl, by decide +kernel, rfl, by decide +kernel, by decide +kernel⟩
abbrev s_ini_NoPicture : Stmt := inClass (top 2) 0
theorem sc_ini_NoPicture : FnScope [("self" : PySem.Str), ("row" : PySem.Str)] [("self" : PySem.Str), ("row" : PySem.Str)] (defScope s_ini_NoPicture) := ⟨rfl, rfl, rfl, by decide +kernel, rfl, by decide +kernel, by decide +kernel⟩
theorem ini_NoPicture {P : Program} {wd : World} {K : PySem.W.Frag} {mg : Str → Option Value} {base : Heap} {G C fI : Addr} {oc kV dc pm cd ct : Value} {od an : Option Addr} {sl : Array (Option Value)} (BG : BasC K mg G "GlowError")
    (lk : K.lookup fI = some ⟨oc, od, .func (PySem.W.fnOf "__init__" "NoPicture.__init__" (defArgs s_ini_NoPicture) (defBody s_ini_NoPicture) (defScope s_ini_NoPicture) .none kV dc pm an cd ct), sl⟩) (hcd : PySem.W.codeIn K cd "NoPicture.__init__" = true) :
    FnOk P wd K mg base CXn 1 fI (PySem.W.fnOf "__init__" "NoPicture.__init__" (defArgs s_ini_NoPicture) (defBody s_ini_NoPicture) (defScope s_ini_NoPicture) .none kV dc pm an cd ct) [("self" : PySem.Str), ("row" : PySem.Str)] (spIni K C [("row" : PySem.Str)]) :=
  fn_of lk hcd sc_ini_NoPicture (spIni_len rfl) fun A outer s H vs Q E hr h => by
    refine ⟨_, pss_cons (ps_expr (pe_oinit BG (pa_cons (pv 0) (pa_cons pe_str pa_nil)))) (pss_one (ps_ost (pv 0) (pv 1))), ?_⟩
    refine ini1 (m := ("no picture" : PySem.Str)) rfl h ?_ ?_ ?_ ?_
    · exact fun _ _ h => h
    · exact (fun a0 a1 H Q q => ⟨_, rfl, q⟩)
    · exact (fun a0 a1 H Q q => ⟨_, rfl, q⟩)
    · exact (fun a0 a1 H Q q => ⟨_, rfl, q⟩)
abbrev s_ini_NoText : Stmt := inClass (top 3) 0
theorem sc_ini_NoText : FnScope [("self" : PySem.Str), ("at" : PySem.Str)] [("self" : PySem.Str), ("at" : PySem.Str)] (defScope s_ini_NoText) := ⟨rfl, rfl, rfl, by decide +kernel, rfl, by decide +kernel, by decide +kernel⟩
theorem ini_NoText {P : Program} {wd : World} {K : PySem.W.Frag} {mg : Str → Option Value} {base : Heap} {G C fI : Addr} {oc kV dc pm cd ct : Value} {od an : Option Addr} {sl : Array (Option Value)} (BG : BasC K mg G "GlowError")
    (lk : K.lookup fI = some ⟨oc, od, .func (PySem.W.fnOf "__init__" "NoText.__init__" (defArgs s_ini_NoText) (defBody s_ini_NoText) (defScope s_ini_NoText) .none kV dc pm an cd ct), sl⟩) (hcd : PySem.W.codeIn K cd "NoText.__init__" = true) :
    FnOk P wd K mg base CXn 1 fI (PySem.W.fnOf "__init__" "NoText.__init__" (defArgs s_ini_NoText) (defBody s_ini_NoText) (defScope s_ini_NoText) .none kV dc pm an cd ct) [("self" : PySem.Str), ("at" : PySem.Str)] (spIni K C [("at" : PySem.Str)]) :=
  fn_of lk hcd sc_ini_NoText (spIni_len rfl) fun A outer s H vs Q E hr h => by
    refine ⟨_, pss_cons (ps_expr (pe_oinit BG (pa_cons (pv 0) (pa_cons pe_str pa_nil)))) (pss_one (ps_ost (pv 0) (pv 1))), ?_⟩
    refine ini1 (m := ("no such text" : PySem.Str)) rfl h ?_ ?_ ?_ ?_
    · exact fun _ _ h => h
    · exact (fun a0 a1 H Q q => ⟨_, rfl, q⟩)
    · exact (fun a0 a1 H Q q => ⟨_, rfl, q⟩)
    · exact (fun a0 a1 H Q q => ⟨_, rfl, q⟩)
section
variable {P : Program} {wd : World} {K : PySem.W.Frag} {mg : Str → Option Value} {base : Heap} {ca : Cad}
theorem snd_is_whole (B : Bi mg) (BX : Bx P wd K mg ca)   {cdv : Value} {A : Around} {outer : List Env} {s : Shared} {H : Hp} {E : XK} {f : Addr} (hr : RoomG 0 (A.deeper (envOfC "is_whole" (defScope s_is_whole) s.heap.objs.size f cdv))) :
    SB (cxOf (L2.CX P wd) P wd K mg base [("thing" : PySem.Str)] "is_whole" (defScope s_is_whole) f cdv A outer s H E) ca (fun cls d _ H => E cls d H) [] (defBody s_is_whole) (den_is_whole) := by
  have tk : Takes (cxOf (L2.CX P wd) P wd K mg base [("thing" : PySem.Str)] "is_whole" (defScope s_is_whole) f cdv A outer s H E) (fun cls d _ H => E cls d H) := takes_of rfl rfl rfl rfl
  have hpo : PassesOwn (model P wd) (cxOf (L2.CX P wd) P wd K mg base [("thing" : PySem.Str)] "is_whole" (defScope s_is_whole) f cdv A outer s H E).A (cxOf (L2.CX P wd) P wd K mg base [("thing" : PySem.Str)] "is_whole" (defScope s_is_whole) f cdv A outer s H E).env (cxOf (L2.CX P wd) P wd K mg base [("thing" : PySem.Str)] "is_whole" (defScope s_is_whole) f cdv A outer s H E).xe := passes_of rfl
  exact (sb_one (ss_ret (se_and (se_bi cs_isi B.isinstance PyProof.Rows.boot_isinstance (sa_cons (se_var 0) (sa_cons (se_bty B.int_ PyProof.Rows.boot_int) sa_nil))) (se_one (se_not (se_bi cs_isi B.isinstance PyProof.Rows.boot_isinstance (sa_cons (se_var 0) (sa_cons (se_bty B.bool_ PyProof.Rows.boot_bool) sa_nil))))))))
theorem snd_is_cell (B : Bi mg) (BX : Bx P wd K mg ca) (c_is_whole : Cal P wd K mg base ca 1 "is_whole" [] F_is_whole)  {cdv : Value} {A : Around} {outer : List Env} {s : Shared} {H : Hp} {E : XK} {f : Addr} (hr : RoomG 1 (A.deeper (envOfC "is_cell" (defScope s_is_cell) s.heap.objs.size f cdv))) :
    SB (cxOf (L2.CX P wd) P wd K mg base [("thing" : PySem.Str)] "is_cell" (defScope s_is_cell) f cdv A outer s H E) ca (fun cls d _ H => E cls d H) [] (defBody s_is_cell) (den_is_cell) := by
  obtain ⟨t_COLOURS, h_COLOURS⟩ := B.g_COLOURS
  have tk : Takes (cxOf (L2.CX P wd) P wd K mg base [("thing" : PySem.Str)] "is_cell" (defScope s_is_cell) f cdv A outer s H E) (fun cls d _ H => E cls d H) := takes_of rfl rfl rfl rfl
  have hpo : PassesOwn (model P wd) (cxOf (L2.CX P wd) P wd K mg base [("thing" : PySem.Str)] "is_cell" (defScope s_is_cell) f cdv A outer s H E).A (cxOf (L2.CX P wd) P wd K mg base [("thing" : PySem.Str)] "is_cell" (defScope s_is_cell) f cdv A outer s H E).env (cxOf (L2.CX P wd) P wd K mg base [("thing" : PySem.Str)] "is_cell" (defScope s_is_cell) f cdv A outer s H E).xe := passes_of rfl
  exact (sb_one (ss_ret (se_or (se_cmp ops_is (se_var 0) se_non) (se_one (se_and (se_call c_is_whole (hr.mono (by decide)) tk (sa_cons (se_var 0) sa_nil)) (se_one (se_chain ops_le ops_lt se_int (se_var 0) (se_gint h_COLOURS))))))))
theorem snd_is_row (B : Bi mg) (BX : Bx P wd K mg ca) (c_is_cell : Cal P wd K mg base ca 2 "is_cell" [] F_is_cell)  {cdv : Value} {A : Around} {outer : List Env} {s : Shared} {H : Hp} {E : XK} {f : Addr} (hr : RoomG 2 (A.deeper (envOfC "is_row" (defScope s_is_row) s.heap.objs.size f cdv))) :
    SB (cxOf (L2.CX P wd) P wd K mg base [("thing" : PySem.Str), ("wide" : PySem.Str), ("one" : PySem.Str)] "is_row" (defScope s_is_row) f cdv A outer s H E) ca (fun cls d _ H => E cls d H) [] (defBody s_is_row) (den_is_row) := by
  have tk : Takes (cxOf (L2.CX P wd) P wd K mg base [("thing" : PySem.Str), ("wide" : PySem.Str), ("one" : PySem.Str)] "is_row" (defScope s_is_row) f cdv A outer s H E) (fun cls d _ H => E cls d H) := takes_of rfl rfl rfl rfl
  have hpo : PassesOwn (model P wd) (cxOf (L2.CX P wd) P wd K mg base [("thing" : PySem.Str), ("wide" : PySem.Str), ("one" : PySem.Str)] "is_row" (defScope s_is_row) f cdv A outer s H E).A (cxOf (L2.CX P wd) P wd K mg base [("thing" : PySem.Str), ("wide" : PySem.Str), ("one" : PySem.Str)] "is_row" (defScope s_is_row) f cdv A outer s H E).env (cxOf (L2.CX P wd) P wd K mg base [("thing" : PySem.Str), ("wide" : PySem.Str), ("one" : PySem.Str)] "is_row" (defScope s_is_row) f cdv A outer s H E).xe := passes_of rfl
  exact (sb_cons (ss_if (SW.st (sw_or (st_not (st_val (se_bi cs_isi B.isinstance PyProof.Rows.boot_isinstance (sa_cons (se_var 0) (sa_cons (se_bty B.list_ PyProof.Rows.boot_list) sa_nil))))) (sw_or1 (st_cmp (ops_ne hr.units) (se_lenV 0 B.len) (se_var 1))))) (sb_one (ss_ret se_bl)) sb_nil)
    (sb_one (ss_ret (se_bi (cs_all rfl) B.all_ PyProof.Rows.boot_all (sa_cons (se_fr (se_lc rfl (si_val (se_var 0)) (Blk.mk (own := [(("one" : PySem.Str), 2)]) (ch := [2]) (blkOk_by (N := [("thing" : PySem.Str), ("wide" : PySem.Str), ("one" : PySem.Str)]) (sc := defScope s_is_row) (by decide +kernel)) sc_is_row.nd (fun _ _ _ _ _ => (sg_name (i := 2) sc_is_row.nd rfl (Or.inl rfl))) (fun _ _ _ _ _ => sts_nil) (fun _ _ _ _ _ => (se_fr (se_call c_is_cell (hr.mono (by decide)) takes_WF (sa_cons (se_var 2) sa_nil)))) (by decide)))) sa_nil)))))
theorem snd_row_bits (B : Bi mg) (BX : Bx P wd K mg ca)   {cdv : Value} {A : Around} {outer : List Env} {s : Shared} {H : Hp} {E : XK} {f : Addr} (hr : RoomG 0 (A.deeper (envOfC "row_bits" (defScope s_row_bits) s.heap.objs.size f cdv))) :
    SB (cxOf (L2.CX P wd) P wd K mg base [("row" : PySem.Str), ("paint" : PySem.Str), ("mask" : PySem.Str), ("x" : PySem.Str)] "row_bits" (defScope s_row_bits) f cdv A outer s H E) ca (fun cls d _ H => E cls d H) [] (defBody s_row_bits) (den_row_bits) := by
  have tk : Takes (cxOf (L2.CX P wd) P wd K mg base [("row" : PySem.Str), ("paint" : PySem.Str), ("mask" : PySem.Str), ("x" : PySem.Str)] "row_bits" (defScope s_row_bits) f cdv A outer s H E) (fun cls d _ H => E cls d H) := takes_of rfl rfl rfl rfl
  have hpo : PassesOwn (model P wd) (cxOf (L2.CX P wd) P wd K mg base [("row" : PySem.Str), ("paint" : PySem.Str), ("mask" : PySem.Str), ("x" : PySem.Str)] "row_bits" (defScope s_row_bits) f cdv A outer s H E).A (cxOf (L2.CX P wd) P wd K mg base [("row" : PySem.Str), ("paint" : PySem.Str), ("mask" : PySem.Str), ("x" : PySem.Str)] "row_bits" (defScope s_row_bits) f cdv A outer s H E).env (cxOf (L2.CX P wd) P wd K mg base [("row" : PySem.Str), ("paint" : PySem.Str), ("mask" : PySem.Str), ("x" : PySem.Str)] "row_bits" (defScope s_row_bits) f cdv A outer s H E).xe := passes_of rfl
  exact (sb_cons (ss_set (i := 1) sc_row_bits.nd rfl (Or.inl rfl) se_int)
    (sb_cons (ss_set (i := 2) sc_row_bits.nd rfl (Or.inl rfl) se_int)
    (sb_cons (ss_for (ch := [3]) hpo rfl (si_range1 B.range (sa_cons (se_lenV 0 B.len) sa_nil)) (sg_name (i := 3) sc_row_bits.nd rfl (Or.inl rfl)) (sb_one (ss_if (st_cmp ops_isnot (se_ixV 0 (se_var 3)) se_non) (sb_cons (ss_set (i := 1) sc_row_bits.nd rfl (Or.inl rfl) (se_bin ops_or (se_var 1) (se_bin ops_shl (se_ixV 0 (se_var 3)) (se_fr (se_bin ops_mul se_int (se_var 3))))))
    (sb_one (ss_set (i := 2) sc_row_bits.nd rfl (Or.inl rfl) (se_bin ops_or (se_var 2) (se_bin ops_shl se_int (se_var 3)))))) sb_nil)))
    (sb_one (ss_ret (se_tup (sa_cons (se_var 1) (sa_cons (se_var 2) sa_nil))))))))
theorem snd_pictured (B : Bi mg) (BX : Bx P wd K mg ca) (c_is_row : Cal P wd K mg base ca 3 "is_row" [] F_is_row) (c_row_bits : Cal P wd K mg base ca 1 "row_bits" [] F_row_bits)  {cdv : Value} {A : Around} {outer : List Env} {s : Shared} {H : Hp} {E : XK} {f : Addr} (hr : RoomG 3 (A.deeper (envOfC "pictured" (defScope s_pictured) s.heap.objs.size f cdv))) :
    SB (cxOf (L2.CX P wd) P wd K mg base [("rows" : PySem.Str), ("wide" : PySem.Str), ("at" : PySem.Str), ("bits" : PySem.Str), ("row" : PySem.Str), ("paints" : PySem.Str), ("one" : PySem.Str)] "pictured" (defScope s_pictured) f cdv A outer s H E) ca (fun cls d _ H => E cls d H) [] (defBody s_pictured) (den_pictured) := by
  obtain ⟨t_MOST, h_MOST⟩ := B.g_MOST
  have tk : Takes (cxOf (L2.CX P wd) P wd K mg base [("rows" : PySem.Str), ("wide" : PySem.Str), ("at" : PySem.Str), ("bits" : PySem.Str), ("row" : PySem.Str), ("paints" : PySem.Str), ("one" : PySem.Str)] "pictured" (defScope s_pictured) f cdv A outer s H E) (fun cls d _ H => E cls d H) := takes_of rfl rfl rfl rfl
  have hpo : PassesOwn (model P wd) (cxOf (L2.CX P wd) P wd K mg base [("rows" : PySem.Str), ("wide" : PySem.Str), ("at" : PySem.Str), ("bits" : PySem.Str), ("row" : PySem.Str), ("paints" : PySem.Str), ("one" : PySem.Str)] "pictured" (defScope s_pictured) f cdv A outer s H E).A (cxOf (L2.CX P wd) P wd K mg base [("rows" : PySem.Str), ("wide" : PySem.Str), ("at" : PySem.Str), ("bits" : PySem.Str), ("row" : PySem.Str), ("paints" : PySem.Str), ("one" : PySem.Str)] "pictured" (defScope s_pictured) f cdv A outer s H E).env (cxOf (L2.CX P wd) P wd K mg base [("rows" : PySem.Str), ("wide" : PySem.Str), ("at" : PySem.Str), ("bits" : PySem.Str), ("row" : PySem.Str), ("paints" : PySem.Str), ("one" : PySem.Str)] "pictured" (defScope s_pictured) f cdv A outer s H E).xe := passes_of rfl
  exact (sb_cons (ss_if (SW.st (sw_or (st_not (st_val (se_bi cs_isi B.isinstance PyProof.Rows.boot_isinstance (sa_cons (se_var 0) (sa_cons (se_bty B.list_ PyProof.Rows.boot_list) sa_nil))))) (sw_or1 (st_not (st_chain ops_le ops_le se_int (se_lenV 0 B.len) (se_gint h_MOST)))))) (sb_one (ss_raiseF (k := 7) BX.i_NoPicture tk hr (sa_cons se_non sa_nil))) sb_nil)
    (sb_cons (ss_if (SW.st (sw_or (st_not (st_val (se_bi cs_isi B.isinstance PyProof.Rows.boot_isinstance (sa_cons (se_ixV 0 se_int) (sa_cons (se_bty B.list_ PyProof.Rows.boot_list) sa_nil))))) (sw_or1 (st_not (st_chain ops_le ops_le se_int (se_bi cs_len B.len PySem.boot_len (sa_cons (se_ixV 0 se_int) sa_nil)) (se_gint h_MOST)))))) (sb_one (ss_raiseF (k := 7) BX.i_NoPicture tk hr (sa_cons se_int sa_nil))) sb_nil)
    (sb_cons (ss_set (i := 1) sc_pictured.nd rfl (Or.inl rfl) (se_bi cs_len B.len PySem.boot_len (sa_cons (se_ixV 0 se_int) sa_nil)))
    (sb_cons (ss_for (ch := [2]) hpo rfl (si_range1 B.range (sa_cons (se_lenV 0 B.len) sa_nil)) (sg_name (i := 2) sc_pictured.nd rfl (Or.inl rfl)) (sb_one (ss_if (st_not (st_val (se_call c_is_row (hr.mono (by decide)) tk (sa_cons (se_ixV 0 (se_var 2)) (sa_cons (se_var 1) sa_nil))))) (sb_one (ss_raiseF (k := 7) BX.i_NoPicture tk hr (sa_cons (se_var 2) sa_nil))) sb_nil)))
    (sb_cons (ss_setLc (i := 3) rfl (si_val (se_var 0)) (Blk.mk (own := [(("row" : PySem.Str), 4)]) (ch := [4]) (blkOk_by (N := [("rows" : PySem.Str), ("wide" : PySem.Str), ("at" : PySem.Str), ("bits" : PySem.Str), ("row" : PySem.Str), ("paints" : PySem.Str), ("one" : PySem.Str)]) (sc := defScope s_pictured) (by decide +kernel)) sc_pictured.nd (fun _ _ _ _ _ => (sg_name (i := 4) sc_pictured.nd rfl (Or.inl rfl))) (fun _ _ _ _ _ => sts_nil) (fun _ _ _ _ _ => (se_fr (se_call c_row_bits (hr.mono (by decide)) takes_WF (sa_cons (se_var 4) sa_nil)))) (by decide)))
    (sb_cons (ss_set (i := 5) sc_pictured.nd rfl (Or.inl rfl) (se_bt cs_tuple B.tuple_ PyProof.Rows.boot_tuple (sa_cons (se_fr (se_lc rfl (si_val (se_var 3)) (Blk.mk (own := [(("one" : PySem.Str), 6)]) (ch := [6]) (blkOk_by (N := [("rows" : PySem.Str), ("wide" : PySem.Str), ("at" : PySem.Str), ("bits" : PySem.Str), ("row" : PySem.Str), ("paints" : PySem.Str), ("one" : PySem.Str)]) (sc := defScope s_pictured) (by decide +kernel)) sc_pictured.nd (fun _ _ _ _ _ => (sg_name (i := 6) sc_pictured.nd rfl (Or.inl rfl))) (fun _ _ _ _ _ => sts_nil) (fun _ _ _ _ _ => (se_ixV 6 se_int)) (by decide)))) sa_nil)))
    (sb_one (ss_ret (se_tup (sa_cons (se_var 1) (sa_cons (se_lenV 0 B.len) (sa_cons (se_var 5) (sa_cons (se_bt cs_tuple B.tuple_ PyProof.Rows.boot_tuple (sa_cons (se_fr (se_lc rfl (si_val (se_var 3)) (Blk.mk (own := [(("one" : PySem.Str), 6)]) (ch := [6]) (blkOk_by (N := [("rows" : PySem.Str), ("wide" : PySem.Str), ("at" : PySem.Str), ("bits" : PySem.Str), ("row" : PySem.Str), ("paints" : PySem.Str), ("one" : PySem.Str)]) (sc := defScope s_pictured) (by decide +kernel)) sc_pictured.nd (fun _ _ _ _ _ => (sg_name (i := 6) sc_pictured.nd rfl (Or.inl rfl))) (fun _ _ _ _ _ => sts_nil) (fun _ _ _ _ _ => (se_ixV 6 se_int)) (by decide)))) sa_nil)) sa_nil)))))))))))))
theorem snd_cell_in (B : Bi mg) (BX : Bx P wd K mg ca)   {cdv : Value} {A : Around} {outer : List Env} {s : Shared} {H : Hp} {E : XK} {f : Addr} (hr : RoomG 0 (A.deeper (envOfC "cell_in" (defScope s_cell_in) s.heap.objs.size f cdv))) :
    SB (cxOf (L2.CX P wd) P wd K mg base [("paint" : PySem.Str), ("mask" : PySem.Str), ("x" : PySem.Str)] "cell_in" (defScope s_cell_in) f cdv A outer s H E) ca (fun cls d _ H => E cls d H) [] (defBody s_cell_in) (den_cell_in) := by
  have tk : Takes (cxOf (L2.CX P wd) P wd K mg base [("paint" : PySem.Str), ("mask" : PySem.Str), ("x" : PySem.Str)] "cell_in" (defScope s_cell_in) f cdv A outer s H E) (fun cls d _ H => E cls d H) := takes_of rfl rfl rfl rfl
  have hpo : PassesOwn (model P wd) (cxOf (L2.CX P wd) P wd K mg base [("paint" : PySem.Str), ("mask" : PySem.Str), ("x" : PySem.Str)] "cell_in" (defScope s_cell_in) f cdv A outer s H E).A (cxOf (L2.CX P wd) P wd K mg base [("paint" : PySem.Str), ("mask" : PySem.Str), ("x" : PySem.Str)] "cell_in" (defScope s_cell_in) f cdv A outer s H E).env (cxOf (L2.CX P wd) P wd K mg base [("paint" : PySem.Str), ("mask" : PySem.Str), ("x" : PySem.Str)] "cell_in" (defScope s_cell_in) f cdv A outer s H E).xe := passes_of rfl
  exact (sb_cons (ss_if (st_cmp (ops_eq hr.units) (se_bin ops_and (se_bin ops_shr (se_var 1) (se_var 2)) se_int) se_int) (sb_one (ss_ret se_non)) sb_nil)
    (sb_one (ss_ret (se_bin ops_and (se_bin ops_shr (se_var 0) (se_fr (se_bin ops_mul se_int (se_var 2)))) se_int))))
theorem snd_rows_of (B : Bi mg) (BX : Bx P wd K mg ca) (c_cell_in : Cal P wd K mg base ca 1 "cell_in" [] F_cell_in)  {cdv : Value} {A : Around} {outer : List Env} {s : Shared} {H : Hp} {E : XK} {f : Addr} (hr : RoomG 1 (A.deeper (envOfC "rows_of" (defScope s_rows_of) s.heap.objs.size f cdv))) :
    SB (cxOf (L2.CX P wd) P wd K mg base [("pic" : PySem.Str), ("rows" : PySem.Str), ("y" : PySem.Str), ("x" : PySem.Str)] "rows_of" (defScope s_rows_of) f cdv A outer s H E) ca (fun cls d _ H => E cls d H) [] (defBody s_rows_of) (den_rows_of) := by
  have tk : Takes (cxOf (L2.CX P wd) P wd K mg base [("pic" : PySem.Str), ("rows" : PySem.Str), ("y" : PySem.Str), ("x" : PySem.Str)] "rows_of" (defScope s_rows_of) f cdv A outer s H E) (fun cls d _ H => E cls d H) := takes_of rfl rfl rfl rfl
  have hpo : PassesOwn (model P wd) (cxOf (L2.CX P wd) P wd K mg base [("pic" : PySem.Str), ("rows" : PySem.Str), ("y" : PySem.Str), ("x" : PySem.Str)] "rows_of" (defScope s_rows_of) f cdv A outer s H E).A (cxOf (L2.CX P wd) P wd K mg base [("pic" : PySem.Str), ("rows" : PySem.Str), ("y" : PySem.Str), ("x" : PySem.Str)] "rows_of" (defScope s_rows_of) f cdv A outer s H E).env (cxOf (L2.CX P wd) P wd K mg base [("pic" : PySem.Str), ("rows" : PySem.Str), ("y" : PySem.Str), ("x" : PySem.Str)] "rows_of" (defScope s_rows_of) f cdv A outer s H E).xe := passes_of rfl
  exact (sb_cons (ss_set (i := 1) sc_rows_of.nd rfl (Or.inl rfl) (se_lst sa_nil))
    (sb_cons (ss_for (ch := [2]) hpo rfl (si_range1 B.range (sa_cons (se_ixV 0 se_int) sa_nil)) (sg_name (i := 2) sc_rows_of.nd rfl (Or.inr rfl)) (sb_one (ss_expr (se_append 1 (se_lc rfl (si_range1 B.range (sa_cons (se_ixV 0 se_int) sa_nil)) (Blk.mk (own := [(("x" : PySem.Str), 3)]) (ch := [3]) (blkOk_by (N := [("pic" : PySem.Str), ("rows" : PySem.Str), ("y" : PySem.Str), ("x" : PySem.Str)]) (sc := defScope s_rows_of) (by decide +kernel)) sc_rows_of.nd (fun _ _ _ _ _ => (sg_name (i := 3) sc_rows_of.nd rfl (Or.inl rfl))) (fun _ _ _ _ _ => sts_nil) (fun _ _ _ _ _ => (se_fr (se_call c_cell_in (hr.mono (by decide)) takes_WF (sa_cons (se_ix (se_ixV 0 se_int) (se_var 2)) (sa_cons (se_ix (se_ixV 0 se_int) (se_var 2)) (sa_cons (se_var 3) sa_nil)))))) (by decide)))))))
    (sb_one (ss_ret (se_move 1)))))
theorem snd_cells_by (B : Bi mg) (BX : Bx P wd K mg ca)   {cdv : Value} {A : Around} {outer : List Env} {s : Shared} {H : Hp} {E : XK} {f : Addr} (hr : RoomG 2 (A.deeper (envOfC "cells_by" (defScope s_cells_by) s.heap.objs.size f cdv))) :
    SB (cxOf (L2.CX P wd) P wd K mg base [("row" : PySem.Str), ("cells" : PySem.Str), ("sign" : PySem.Str)] "cells_by" (defScope s_cells_by) f cdv A outer s H E) ca (fun cls d _ H => E cls d H) [] (defBody s_cells_by) (den_cells_by) := by
  obtain ⟨t_SIGNS, h_SIGNS⟩ := B.g_SIGNS
  have tk : Takes (cxOf (L2.CX P wd) P wd K mg base [("row" : PySem.Str), ("cells" : PySem.Str), ("sign" : PySem.Str)] "cells_by" (defScope s_cells_by) f cdv A outer s H E) (fun cls d _ H => E cls d H) := takes_of rfl rfl rfl rfl
  have hpo : PassesOwn (model P wd) (cxOf (L2.CX P wd) P wd K mg base [("row" : PySem.Str), ("cells" : PySem.Str), ("sign" : PySem.Str)] "cells_by" (defScope s_cells_by) f cdv A outer s H E).A (cxOf (L2.CX P wd) P wd K mg base [("row" : PySem.Str), ("cells" : PySem.Str), ("sign" : PySem.Str)] "cells_by" (defScope s_cells_by) f cdv A outer s H E).env (cxOf (L2.CX P wd) P wd K mg base [("row" : PySem.Str), ("cells" : PySem.Str), ("sign" : PySem.Str)] "cells_by" (defScope s_cells_by) f cdv A outer s H E).xe := passes_of rfl
  exact (sb_cons (ss_set (i := 1) sc_cells_by.nd rfl (Or.inl rfl) (se_lst sa_nil))
    (sb_cons (ss_for (ch := [2]) hpo rfl (si_val (se_var 0)) (sg_name (i := 2) sc_cells_by.nd rfl (Or.inl rfl)) (sb_one (ss_if (st_cmp (ops_eq hr.units) (se_var 2) se_str) (sb_one (ss_expr (se_append 1 se_non))) (sb_one (ss_if (st_cmp (ops_inT hr) (se_var 2) (se_gstr h_SIGNS)) (sb_one (ss_expr (se_append 1 (se_t1 mtt_index (se_gstr h_SIGNS) (se_var 2))))) (sb_one (ss_raiseF (k := 13) BX.i_NoText tk hr (sa_cons se_non sa_nil))))))))
    (sb_one (ss_ret (se_move 1)))))
theorem snd_read_drawing (B : Bi mg) (BX : Bx P wd K mg ca) (c_cells_by : Cal P wd K mg base ca 3 "cells_by" [] F_cells_by) (c_pictured : Cal P wd K mg base ca 4 "pictured" [] F_pictured)  {cdv : Value} {A : Around} {outer : List Env} {s : Shared} {H : Hp} {E : XK} {f : Addr} (hr : RoomG 4 (A.deeper (envOfC "read_drawing" (defScope s_read_drawing) s.heap.objs.size f cdv))) :
    SB (cxOf (L2.CX P wd) P wd K mg base [("text" : PySem.Str), ("rows" : PySem.Str), ("row" : PySem.Str), ("found" : PySem.Str)] "read_drawing" (defScope s_read_drawing) f cdv A outer s H E) ca (fun cls d _ H => E cls d H) [] (defBody s_read_drawing) (den_read_drawing) := by
  have tk : Takes (cxOf (L2.CX P wd) P wd K mg base [("text" : PySem.Str), ("rows" : PySem.Str), ("row" : PySem.Str), ("found" : PySem.Str)] "read_drawing" (defScope s_read_drawing) f cdv A outer s H E) (fun cls d _ H => E cls d H) := takes_of rfl rfl rfl rfl
  have hpo : PassesOwn (model P wd) (cxOf (L2.CX P wd) P wd K mg base [("text" : PySem.Str), ("rows" : PySem.Str), ("row" : PySem.Str), ("found" : PySem.Str)] "read_drawing" (defScope s_read_drawing) f cdv A outer s H E).A (cxOf (L2.CX P wd) P wd K mg base [("text" : PySem.Str), ("rows" : PySem.Str), ("row" : PySem.Str), ("found" : PySem.Str)] "read_drawing" (defScope s_read_drawing) f cdv A outer s H E).env (cxOf (L2.CX P wd) P wd K mg base [("text" : PySem.Str), ("rows" : PySem.Str), ("row" : PySem.Str), ("found" : PySem.Str)] "read_drawing" (defScope s_read_drawing) f cdv A outer s H E).xe := passes_of rfl
  exact (sb_cons (ss_setLcX (i := 1) rfl rfl tk rfl (si_val (se_fr (se_t1 mtt_split (se_var 0) se_str))) (BlkX.mk (own := [(("row" : PySem.Str), 2)]) (ch := [2]) (blkOk_by (N := [("text" : PySem.Str), ("rows" : PySem.Str), ("row" : PySem.Str), ("found" : PySem.Str)]) (sc := defScope s_read_drawing) (by decide +kernel)) sc_read_drawing.nd (fun _ _ _ _ _ _ => (sg_name (i := 2) sc_read_drawing.nd rfl (Or.inl rfl))) (fun _ _ _ _ _ _ => sts_nil) (fun _ _ _ _ _ _ _ tk => (se_fr (se_call c_cells_by (hr.mono (by decide)) tk (sa_cons (se_var 2) sa_nil)))) (by decide)))
    (sb_cons (ss_set (i := 3) sc_read_drawing.nd rfl (Or.inl rfl) se_non)
    (sb_cons (ss_try0 (c := .ref (ca 7)) rfl rfl ⟨rfl, by decide, .inl BX.g_NoPicture⟩ tk BX.catch_NoPicture (fun W pn_ xe tk hpo => (sb_one (ss_set (i := 3) sc_read_drawing.nd rfl (Or.inl rfl) (se_call c_pictured (hr.mono (by decide)) tk (sa_cons (se_var 1) sa_nil))))) (fun a_ oe pn_ hv => (sb_one (ss_set (i := 3) sc_read_drawing.nd rfl (Or.inl rfl) se_non))))
    (sb_cons (ss_if (st_cmp ops_is (se_var 3) se_non) (sb_one (ss_raiseF (k := 13) BX.i_NoText tk hr (sa_cons se_non sa_nil))) sb_nil)
    (sb_one (ss_ret (se_move 3)))))))
theorem snd_row_text (B : Bi mg) (BX : Bx P wd K mg ca)   {cdv : Value} {A : Around} {outer : List Env} {s : Shared} {H : Hp} {E : XK} {f : Addr} (hr : RoomG 0 (A.deeper (envOfC "row_text" (defScope s_row_text) s.heap.objs.size f cdv))) :
    SB (cxOf (L2.CX P wd) P wd K mg base [("row" : PySem.Str), ("one" : PySem.Str)] "row_text" (defScope s_row_text) f cdv A outer s H E) ca (fun cls d _ H => E cls d H) [] (defBody s_row_text) (den_row_text) := by
  obtain ⟨t_SIGNS, h_SIGNS⟩ := B.g_SIGNS
  have tk : Takes (cxOf (L2.CX P wd) P wd K mg base [("row" : PySem.Str), ("one" : PySem.Str)] "row_text" (defScope s_row_text) f cdv A outer s H E) (fun cls d _ H => E cls d H) := takes_of rfl rfl rfl rfl
  have hpo : PassesOwn (model P wd) (cxOf (L2.CX P wd) P wd K mg base [("row" : PySem.Str), ("one" : PySem.Str)] "row_text" (defScope s_row_text) f cdv A outer s H E).A (cxOf (L2.CX P wd) P wd K mg base [("row" : PySem.Str), ("one" : PySem.Str)] "row_text" (defScope s_row_text) f cdv A outer s H E).env (cxOf (L2.CX P wd) P wd K mg base [("row" : PySem.Str), ("one" : PySem.Str)] "row_text" (defScope s_row_text) f cdv A outer s H E).xe := passes_of rfl
  exact (sb_one (ss_ret (se_t1 mtt_join se_str (se_fr (se_lc rfl (si_val (se_var 0)) (Blk.mk (own := [(("one" : PySem.Str), 1)]) (ch := [1]) (blkOk_by (N := [("row" : PySem.Str), ("one" : PySem.Str)]) (sc := defScope s_row_text) (by decide +kernel)) sc_row_text.nd (fun _ _ _ _ _ => (sg_name (i := 1) sc_row_text.nd rfl (Or.inl rfl))) (fun _ _ _ _ _ => sts_nil) (fun _ _ _ _ _ => (se_if (st_cmp ops_is (se_var 1) se_non) se_str (se_ix (se_gstr h_SIGNS) (se_var 1)))) (by decide)))))))
theorem snd_drawing_of (B : Bi mg) (BX : Bx P wd K mg ca) (c_row_text : Cal P wd K mg base ca 1 "row_text" [] F_row_text) (c_rows_of : Cal P wd K mg base ca 2 "rows_of" [] F_rows_of)  {cdv : Value} {A : Around} {outer : List Env} {s : Shared} {H : Hp} {E : XK} {f : Addr} (hr : RoomG 2 (A.deeper (envOfC "drawing_of" (defScope s_drawing_of) s.heap.objs.size f cdv))) :
    SB (cxOf (L2.CX P wd) P wd K mg base [("pic" : PySem.Str), ("row" : PySem.Str)] "drawing_of" (defScope s_drawing_of) f cdv A outer s H E) ca (fun cls d _ H => E cls d H) [] (defBody s_drawing_of) (den_drawing_of) := by
  have tk : Takes (cxOf (L2.CX P wd) P wd K mg base [("pic" : PySem.Str), ("row" : PySem.Str)] "drawing_of" (defScope s_drawing_of) f cdv A outer s H E) (fun cls d _ H => E cls d H) := takes_of rfl rfl rfl rfl
  have hpo : PassesOwn (model P wd) (cxOf (L2.CX P wd) P wd K mg base [("pic" : PySem.Str), ("row" : PySem.Str)] "drawing_of" (defScope s_drawing_of) f cdv A outer s H E).A (cxOf (L2.CX P wd) P wd K mg base [("pic" : PySem.Str), ("row" : PySem.Str)] "drawing_of" (defScope s_drawing_of) f cdv A outer s H E).env (cxOf (L2.CX P wd) P wd K mg base [("pic" : PySem.Str), ("row" : PySem.Str)] "drawing_of" (defScope s_drawing_of) f cdv A outer s H E).xe := passes_of rfl
  exact (sb_one (ss_ret (se_t1 mtt_join se_str (se_fr (se_lc rfl (si_val (se_fr (se_call c_rows_of (hr.mono (by decide)) tk (sa_cons (se_var 0) sa_nil)))) (Blk.mk (own := [(("row" : PySem.Str), 1)]) (ch := [1]) (blkOk_by (N := [("pic" : PySem.Str), ("row" : PySem.Str)]) (sc := defScope s_drawing_of) (by decide +kernel)) sc_drawing_of.nd (fun _ _ _ _ _ => (sg_name (i := 1) sc_drawing_of.nd rfl (Or.inl rfl))) (fun _ _ _ _ _ => sts_nil) (fun _ _ _ _ _ => (se_fr (se_call c_row_text (hr.mono (by decide)) takes_WF (sa_cons (se_var 1) sa_nil)))) (by decide)))))))
theorem snd_whole_in (B : Bi mg) (BX : Bx P wd K mg ca)   {cdv : Value} {A : Around} {outer : List Env} {s : Shared} {H : Hp} {E : XK} {f : Addr} (hr : RoomG 0 (A.deeper (envOfC "whole_in" (defScope s_whole_in) s.heap.objs.size f cdv))) :
    SB (cxOf (L2.CX P wd) P wd K mg base [("word" : PySem.Str), ("low" : PySem.Str), ("high" : PySem.Str), ("figures" : PySem.Str), ("sign" : PySem.Str), ("number" : PySem.Str)] "whole_in" (defScope s_whole_in) f cdv A outer s H E) ca (fun cls d _ H => E cls d H) [] (defBody s_whole_in) (den_whole_in) := by
  have tk : Takes (cxOf (L2.CX P wd) P wd K mg base [("word" : PySem.Str), ("low" : PySem.Str), ("high" : PySem.Str), ("figures" : PySem.Str), ("sign" : PySem.Str), ("number" : PySem.Str)] "whole_in" (defScope s_whole_in) f cdv A outer s H E) (fun cls d _ H => E cls d H) := takes_of rfl rfl rfl rfl
  have hpo : PassesOwn (model P wd) (cxOf (L2.CX P wd) P wd K mg base [("word" : PySem.Str), ("low" : PySem.Str), ("high" : PySem.Str), ("figures" : PySem.Str), ("sign" : PySem.Str), ("number" : PySem.Str)] "whole_in" (defScope s_whole_in) f cdv A outer s H E).A (cxOf (L2.CX P wd) P wd K mg base [("word" : PySem.Str), ("low" : PySem.Str), ("high" : PySem.Str), ("figures" : PySem.Str), ("sign" : PySem.Str), ("number" : PySem.Str)] "whole_in" (defScope s_whole_in) f cdv A outer s H E).env (cxOf (L2.CX P wd) P wd K mg base [("word" : PySem.Str), ("low" : PySem.Str), ("high" : PySem.Str), ("figures" : PySem.Str), ("sign" : PySem.Str), ("number" : PySem.Str)] "whole_in" (defScope s_whole_in) f cdv A outer s H E).xe := passes_of rfl
  exact (sb_cons (ss_set (i := 3) sc_whole_in.nd rfl (Or.inl rfl) (se_var 0))
    (sb_cons (ss_if (st_cmp (ops_eq hr.units) (se_fr (se_slice (se_var 0) so_none (so_some se_int))) se_str) (sb_one (ss_set (i := 3) sc_whole_in.nd rfl (Or.inl rfl) (se_slice (se_var 0) (so_some se_int) so_none))) sb_nil)
    (sb_cons (ss_if (SW.st (sw_or (st_cmp ops_lt (se_lenV 3 B.len) se_int) (sw_or (st_cmp ops_gt (se_lenV 3 B.len) se_int) (sw_or1 (st_not (st_val (se_bi (cs_all rfl) B.all_ PyProof.Rows.boot_all (sa_cons (se_fr (se_lc rfl (si_val (se_var 3)) (Blk.mk (own := [(("sign" : PySem.Str), 4)]) (ch := [4]) (blkOk_by (N := [("word" : PySem.Str), ("low" : PySem.Str), ("high" : PySem.Str), ("figures" : PySem.Str), ("sign" : PySem.Str), ("number" : PySem.Str)]) (sc := defScope s_whole_in) (by decide +kernel)) sc_whole_in.nd (fun _ _ _ _ _ => (sg_name (i := 4) sc_whole_in.nd rfl (Or.inl rfl))) (fun _ _ _ _ _ => sts_nil) (fun _ _ _ _ _ => (se_cmp (ops_inT hr) (se_var 4) se_str)) (by decide)))) sa_nil)))))))) (sb_one (ss_ret se_non)) sb_nil)
    (sb_cons (ss_if (SW.st (sw_and (st_cmp (ops_eq hr.units) (se_ixV 3 se_int) se_str) (sw_and1 (st_cmp (ops_ne hr.units) (se_var 0) se_str)))) (sb_one (ss_ret se_non)) sb_nil)
    (sb_cons (ss_set (i := 5) sc_whole_in.nd rfl (Or.inl rfl) (se_bt cs_int B.int_ PyProof.Rows.boot_int (sa_cons (se_var 0) sa_nil)))
    (sb_cons (ss_if (SW.st (sw_or (st_cmp ops_lt (se_var 5) (se_var 1)) (sw_or1 (st_cmp ops_gt (se_var 5) (se_var 2))))) (sb_one (ss_ret se_non)) sb_nil)
    (sb_one (ss_ret (se_move 5)))))))))
theorem snd_Reader_init (B : Bi mg) (BX : Bx P wd K mg ca)   {cdv : Value} {A : Around} {outer : List Env} {s : Shared} {H : Hp} {E : XK} {f : Addr} (hr : RoomG 0 (A.deeper (envOfC "Reader.__init__" (defScope s_Reader_init) s.heap.objs.size f cdv))) :
    SB (cxOf (L2.CX P wd) P wd K mg base [("self" : PySem.Str), ("text" : PySem.Str)] "Reader.__init__" (defScope s_Reader_init) f cdv A outer s H E) ca (fun cls d _ H => E cls d H) (List.range 2) (defBody s_Reader_init) (den_Reader_init) := by
  have tk : Takes (cxOf (L2.CX P wd) P wd K mg base [("self" : PySem.Str), ("text" : PySem.Str)] "Reader.__init__" (defScope s_Reader_init) f cdv A outer s H E) (fun cls d _ H => E cls d H) := takes_of rfl rfl rfl rfl
  have hpo : PassesOwn (model P wd) (cxOf (L2.CX P wd) P wd K mg base [("self" : PySem.Str), ("text" : PySem.Str)] "Reader.__init__" (defScope s_Reader_init) f cdv A outer s H E).A (cxOf (L2.CX P wd) P wd K mg base [("self" : PySem.Str), ("text" : PySem.Str)] "Reader.__init__" (defScope s_Reader_init) f cdv A outer s H E).env (cxOf (L2.CX P wd) P wd K mg base [("self" : PySem.Str), ("text" : PySem.Str)] "Reader.__init__" (defScope s_Reader_init) f cdv A outer s H E).xe := passes_of rfl
  exact (sb_cons (ss_fld 0 (se_t1 mtt_split (se_var 1) se_str) BX.ob_signs)
    (sb_cons (ss_fld 0 se_int BX.ob_here)
    (sb_one (ss_fld 0 se_int BX.ob_begun))))
theorem snd_Reader_due_word (B : Bi mg) (BX : Bx P wd K mg ca)   {cdv : Value} {A : Around} {outer : List Env} {s : Shared} {H : Hp} {E : XK} {f : Addr} (hr : RoomG 2 (A.deeper (envOfC "Reader.due_word" (defScope s_Reader_due_word) s.heap.objs.size f cdv))) :
    SB (cxOf (L2.CX P wd) P wd K mg base [("self" : PySem.Str)] "Reader.due_word" (defScope s_Reader_due_word) f cdv A outer s H E) ca (fun cls d _ H => E cls d H) (List.range 1) (defBody s_Reader_due_word) (den_Reader_due_word) := by
  have tk : Takes (cxOf (L2.CX P wd) P wd K mg base [("self" : PySem.Str)] "Reader.due_word" (defScope s_Reader_due_word) f cdv A outer s H E) (fun cls d _ H => E cls d H) := takes_of rfl rfl rfl rfl
  have hpo : PassesOwn (model P wd) (cxOf (L2.CX P wd) P wd K mg base [("self" : PySem.Str)] "Reader.due_word" (defScope s_Reader_due_word) f cdv A outer s H E).A (cxOf (L2.CX P wd) P wd K mg base [("self" : PySem.Str)] "Reader.due_word" (defScope s_Reader_due_word) f cdv A outer s H E).env (cxOf (L2.CX P wd) P wd K mg base [("self" : PySem.Str)] "Reader.due_word" (defScope s_Reader_due_word) f cdv A outer s H E).xe := passes_of rfl
  exact (sb_cons (ss_if (st_cmp (ops_eq hr.units) (se_fldO 0 BX.ob_here) (se_bi cs_len B.len PySem.boot_len (sa_cons (se_fldO 0 BX.ob_signs) sa_nil))) (sb_one (ss_raiseF (k := 13) BX.i_NoText tk hr (sa_cons (se_fldO 0 BX.ob_here) sa_nil))) sb_nil)
    (sb_one (ss_ret (se_ix (se_fldO 0 BX.ob_signs) (se_fldO 0 BX.ob_here)))))
theorem snd_Reader_take (B : Bi mg) (BX : Bx P wd K mg ca) (c_Reader_due_word : MeC P wd K mg base ca 3 "due_word" 16 [] F_Reader_due_word)  {cdv : Value} {A : Around} {outer : List Env} {s : Shared} {H : Hp} {E : XK} {f : Addr} (hr : RoomG 3 (A.deeper (envOfC "Reader.take" (defScope s_Reader_take) s.heap.objs.size f cdv))) :
    SB (cxOf (L2.CX P wd) P wd K mg base [("self" : PySem.Str), ("wanted" : PySem.Str), ("word" : PySem.Str)] "Reader.take" (defScope s_Reader_take) f cdv A outer s H E) ca (fun cls d _ H => E cls d H) (List.range 2) (defBody s_Reader_take) (den_Reader_take) := by
  have tk : Takes (cxOf (L2.CX P wd) P wd K mg base [("self" : PySem.Str), ("wanted" : PySem.Str), ("word" : PySem.Str)] "Reader.take" (defScope s_Reader_take) f cdv A outer s H E) (fun cls d _ H => E cls d H) := takes_of rfl rfl rfl rfl
  have hpo : PassesOwn (model P wd) (cxOf (L2.CX P wd) P wd K mg base [("self" : PySem.Str), ("wanted" : PySem.Str), ("word" : PySem.Str)] "Reader.take" (defScope s_Reader_take) f cdv A outer s H E).A (cxOf (L2.CX P wd) P wd K mg base [("self" : PySem.Str), ("wanted" : PySem.Str), ("word" : PySem.Str)] "Reader.take" (defScope s_Reader_take) f cdv A outer s H E).env (cxOf (L2.CX P wd) P wd K mg base [("self" : PySem.Str), ("wanted" : PySem.Str), ("word" : PySem.Str)] "Reader.take" (defScope s_Reader_take) f cdv A outer s H E).xe := passes_of rfl
  exact (sb_cons (ss_set (i := 2) sc_Reader_take.nd rfl (Or.inl rfl) (se_methO0 0 c_Reader_due_word (hr.mono (by decide)) tk))
    (sb_cons (ss_if (st_cmp ops_ninU (se_var 2) (se_var 1)) (sb_one (ss_raiseF (k := 13) BX.i_NoText tk hr (sa_cons (se_fldO 0 BX.ob_here) sa_nil))) sb_nil)
    (sb_cons (ss_putF 0 (se_bin ops_add (se_fldO 0 BX.ob_here) se_int) BX.ob_here)
    (sb_one (ss_ret (se_move 2))))))
theorem snd_Reader_take_whole (B : Bi mg) (BX : Bx P wd K mg ca) (c_Reader_due_word : MeC P wd K mg base ca 3 "due_word" 16 [] F_Reader_due_word) (c_whole_in : Cal P wd K mg base ca 1 "whole_in" [] F_whole_in)  {cdv : Value} {A : Around} {outer : List Env} {s : Shared} {H : Hp} {E : XK} {f : Addr} (hr : RoomG 3 (A.deeper (envOfC "Reader.take_whole" (defScope s_Reader_take_whole) s.heap.objs.size f cdv))) :
    SB (cxOf (L2.CX P wd) P wd K mg base [("self" : PySem.Str), ("low" : PySem.Str), ("high" : PySem.Str), ("number" : PySem.Str)] "Reader.take_whole" (defScope s_Reader_take_whole) f cdv A outer s H E) ca (fun cls d _ H => E cls d H) (List.range 3) (defBody s_Reader_take_whole) (den_Reader_take_whole) := by
  have tk : Takes (cxOf (L2.CX P wd) P wd K mg base [("self" : PySem.Str), ("low" : PySem.Str), ("high" : PySem.Str), ("number" : PySem.Str)] "Reader.take_whole" (defScope s_Reader_take_whole) f cdv A outer s H E) (fun cls d _ H => E cls d H) := takes_of rfl rfl rfl rfl
  have hpo : PassesOwn (model P wd) (cxOf (L2.CX P wd) P wd K mg base [("self" : PySem.Str), ("low" : PySem.Str), ("high" : PySem.Str), ("number" : PySem.Str)] "Reader.take_whole" (defScope s_Reader_take_whole) f cdv A outer s H E).A (cxOf (L2.CX P wd) P wd K mg base [("self" : PySem.Str), ("low" : PySem.Str), ("high" : PySem.Str), ("number" : PySem.Str)] "Reader.take_whole" (defScope s_Reader_take_whole) f cdv A outer s H E).env (cxOf (L2.CX P wd) P wd K mg base [("self" : PySem.Str), ("low" : PySem.Str), ("high" : PySem.Str), ("number" : PySem.Str)] "Reader.take_whole" (defScope s_Reader_take_whole) f cdv A outer s H E).xe := passes_of rfl
  exact (sb_cons (ss_set (i := 3) sc_Reader_take_whole.nd rfl (Or.inl rfl) (se_call c_whole_in (hr.mono (by decide)) tk (sa_cons (se_fr (se_methO0 0 c_Reader_due_word (hr.mono (by decide)) tk)) (sa_cons (se_var 1) (sa_cons (se_var 2) sa_nil)))))
    (sb_cons (ss_if (st_cmp ops_is (se_var 3) se_non) (sb_one (ss_raiseF (k := 13) BX.i_NoText tk hr (sa_cons (se_fldO 0 BX.ob_here) sa_nil))) sb_nil)
    (sb_cons (ss_putF 0 (se_bin ops_add (se_fldO 0 BX.ob_here) se_int) BX.ob_here)
    (sb_one (ss_ret (se_move 3))))))
theorem snd_Reader_take_picture (B : Bi mg) (BX : Bx P wd K mg ca) (c_Reader_due_word : MeC P wd K mg base ca 3 "due_word" 16 [] F_Reader_due_word) (c_read_drawing : Cal P wd K mg base ca 5 "read_drawing" [] F_read_drawing)  {cdv : Value} {A : Around} {outer : List Env} {s : Shared} {H : Hp} {E : XK} {f : Addr} (hr : RoomG 5 (A.deeper (envOfC "Reader.take_picture" (defScope s_Reader_take_picture) s.heap.objs.size f cdv))) :
    SB (cxOf (L2.CX P wd) P wd K mg base [("self" : PySem.Str), ("word" : PySem.Str), ("pic" : PySem.Str)] "Reader.take_picture" (defScope s_Reader_take_picture) f cdv A outer s H E) ca (fun cls d _ H => E cls d H) (List.range 1) (defBody s_Reader_take_picture) (den_Reader_take_picture) := by
  have tk : Takes (cxOf (L2.CX P wd) P wd K mg base [("self" : PySem.Str), ("word" : PySem.Str), ("pic" : PySem.Str)] "Reader.take_picture" (defScope s_Reader_take_picture) f cdv A outer s H E) (fun cls d _ H => E cls d H) := takes_of rfl rfl rfl rfl
  have hpo : PassesOwn (model P wd) (cxOf (L2.CX P wd) P wd K mg base [("self" : PySem.Str), ("word" : PySem.Str), ("pic" : PySem.Str)] "Reader.take_picture" (defScope s_Reader_take_picture) f cdv A outer s H E).A (cxOf (L2.CX P wd) P wd K mg base [("self" : PySem.Str), ("word" : PySem.Str), ("pic" : PySem.Str)] "Reader.take_picture" (defScope s_Reader_take_picture) f cdv A outer s H E).env (cxOf (L2.CX P wd) P wd K mg base [("self" : PySem.Str), ("word" : PySem.Str), ("pic" : PySem.Str)] "Reader.take_picture" (defScope s_Reader_take_picture) f cdv A outer s H E).xe := passes_of rfl
  exact (sb_cons (ss_set (i := 1) sc_Reader_take_picture.nd rfl (Or.inl rfl) (se_methO0 0 c_Reader_due_word (hr.mono (by decide)) tk))
    (sb_cons (ss_set (i := 2) sc_Reader_take_picture.nd rfl (Or.inl rfl) se_non)
    (sb_cons (ss_try0 (c := .ref (ca 13)) rfl rfl ⟨rfl, by decide, .inl BX.g_NoText⟩ tk BX.catch_NoText (fun W pn_ xe tk hpo => (sb_one (ss_set (i := 2) sc_Reader_take_picture.nd rfl (Or.inl rfl) (se_call c_read_drawing (hr.mono (by decide)) tk (sa_cons (se_var 1) sa_nil))))) (fun a_ oe pn_ hv => (sb_one (ss_set (i := 2) sc_Reader_take_picture.nd rfl (Or.inl rfl) se_non))))
    (sb_cons (ss_if (st_cmp ops_is (se_var 2) se_non) (sb_one (ss_raiseF (k := 13) BX.i_NoText tk hr (sa_cons (se_fldO 0 BX.ob_here) sa_nil))) sb_nil)
    (sb_cons (ss_putF 0 (se_bin ops_add (se_fldO 0 BX.ob_here) se_int) BX.ob_here)
    (sb_one (ss_ret (se_move 2))))))))
theorem snd_Reader_take_scene {n : Nat} {F_Reader_take_parts : FnT} {F_Reader_take_scene : FnT} (B : Bi mg) (BX : Bx P wd K mg ca) (c_Reader_due_word : MeC P wd K mg base ca 3 "due_word" 16 [] F_Reader_due_word) (c_Reader_take : MeC P wd K mg base ca 4 "take" 16 [] F_Reader_take) (c_Reader_take_parts : MeC P wd K mg base ca (n + 6) "take_parts" 16 [] F_Reader_take_parts) (c_Reader_take_picture : MeC P wd K mg base ca 6 "take_picture" 16 [] F_Reader_take_picture) (c_Reader_take_scene : MeC P wd K mg base ca (n + 6) "take_scene" 16 [] F_Reader_take_scene) (c_Reader_take_whole : MeC P wd K mg base ca 4 "take_whole" 16 [] F_Reader_take_whole)  {cdv : Value} {A : Around} {outer : List Env} {s : Shared} {H : Hp} {E : XK} {f : Addr} (hr : RoomG (n + 6) (A.deeper (envOfC "Reader.take_scene" (defScope s_Reader_take_scene) s.heap.objs.size f cdv))) :
    SB (cxOf (L2.CX P wd) P wd K mg base [("self" : PySem.Str), ("deep" : PySem.Str), ("kind" : PySem.Str), ("scene" : PySem.Str), ("x" : PySem.Str), ("y" : PySem.Str), ("wide" : PySem.Str)] "Reader.take_scene" (defScope s_Reader_take_scene) f cdv A outer s H E) ca (fun cls d _ H => E cls d H) (List.range 2) (defBody s_Reader_take_scene) (den_Reader_take_scene F_Reader_take_parts F_Reader_take_scene) := by
  obtain ⟨t_DEEP, h_DEEP⟩ := B.g_DEEP
  obtain ⟨t_FAR, h_FAR⟩ := B.g_FAR
  obtain ⟨t_MANY, h_MANY⟩ := B.g_MANY
  have tk : Takes (cxOf (L2.CX P wd) P wd K mg base [("self" : PySem.Str), ("deep" : PySem.Str), ("kind" : PySem.Str), ("scene" : PySem.Str), ("x" : PySem.Str), ("y" : PySem.Str), ("wide" : PySem.Str)] "Reader.take_scene" (defScope s_Reader_take_scene) f cdv A outer s H E) (fun cls d _ H => E cls d H) := takes_of rfl rfl rfl rfl
  have hpo : PassesOwn (model P wd) (cxOf (L2.CX P wd) P wd K mg base [("self" : PySem.Str), ("deep" : PySem.Str), ("kind" : PySem.Str), ("scene" : PySem.Str), ("x" : PySem.Str), ("y" : PySem.Str), ("wide" : PySem.Str)] "Reader.take_scene" (defScope s_Reader_take_scene) f cdv A outer s H E).A (cxOf (L2.CX P wd) P wd K mg base [("self" : PySem.Str), ("deep" : PySem.Str), ("kind" : PySem.Str), ("scene" : PySem.Str), ("x" : PySem.Str), ("y" : PySem.Str), ("wide" : PySem.Str)] "Reader.take_scene" (defScope s_Reader_take_scene) f cdv A outer s H E).env (cxOf (L2.CX P wd) P wd K mg base [("self" : PySem.Str), ("deep" : PySem.Str), ("kind" : PySem.Str), ("scene" : PySem.Str), ("x" : PySem.Str), ("y" : PySem.Str), ("wide" : PySem.Str)] "Reader.take_scene" (defScope s_Reader_take_scene) f cdv A outer s H E).xe := passes_of rfl
  exact (sb_cons (ss_if (SW.st (sw_or (st_cmp (ops_ne hr.units) (se_fr (se_methO0 0 c_Reader_due_word (hr.mono (by omega)) tk)) se_str) (sw_or (st_cmp ops_gt (se_var 1) (se_gint h_DEEP)) (sw_or1 (st_cmp (ops_eq hr.units) (se_fldO 0 BX.ob_begun) (se_gint h_MANY)))))) (sb_one (ss_raiseF (k := 13) BX.i_NoText tk hr (sa_cons (se_fldO 0 BX.ob_here) sa_nil))) sb_nil)
    (sb_cons (ss_putF 0 (se_bin ops_add (se_fldO 0 BX.ob_begun) se_int) BX.ob_begun)
    (sb_cons (ss_putF 0 (se_bin ops_add (se_fldO 0 BX.ob_here) se_int) BX.ob_here)
    (sb_cons (ss_set (i := 2) sc_Reader_take_scene.nd rfl (Or.inl rfl) (se_methO 0 c_Reader_take (hr.mono (by omega)) tk (sa_cons (se_tup (sa_cons se_str (sa_cons se_str (sa_cons se_str (sa_cons se_str sa_nil))))) sa_nil)))
    (sb_cons (ss_if (st_cmp (ops_eq hr.units) (se_var 2) se_str) (sb_one (ss_set (i := 3) sc_Reader_take_scene.nd rfl (Or.inl rfl) (se_tup (sa_cons (se_var 2) (sa_cons (se_fr (se_methO0 0 c_Reader_take_picture (hr.mono (by omega)) tk)) sa_nil))))) (sb_one (ss_if (st_cmp (ops_eq hr.units) (se_var 2) se_str) (sb_one (ss_set (i := 3) sc_Reader_take_scene.nd rfl (Or.inl rfl) (se_tup (sa_cons (se_var 2) (sa_cons (se_fr (se_methO 0 c_Reader_take_whole (hr.mono (by omega)) tk (sa_cons se_int (sa_cons se_int sa_nil)))) (sa_cons (se_fr (se_methO 0 c_Reader_take_scene (hr.mono (by omega)) tk (sa_cons (se_bin ops_add (se_var 1) se_int) sa_nil))) sa_nil)))))) (sb_one (ss_if (st_cmp (ops_eq hr.units) (se_var 2) se_str) (sb_cons (ss_set (i := 4) sc_Reader_take_scene.nd rfl (Or.inl rfl) (se_methO 0 c_Reader_take_whole (hr.mono (by omega)) tk (sa_cons (se_un uns_neg (se_gint h_FAR)) (sa_cons (se_gint h_FAR) sa_nil))))
    (sb_cons (ss_set (i := 5) sc_Reader_take_scene.nd rfl (Or.inl rfl) (se_methO 0 c_Reader_take_whole (hr.mono (by omega)) tk (sa_cons (se_un uns_neg (se_gint h_FAR)) (sa_cons (se_gint h_FAR) sa_nil))))
    (sb_cons (ss_set (i := 6) sc_Reader_take_scene.nd rfl (Or.inl rfl) (se_methO 0 c_Reader_take_whole (hr.mono (by omega)) tk (sa_cons se_int (sa_cons se_int sa_nil))))
    (sb_one (ss_set (i := 3) sc_Reader_take_scene.nd rfl (Or.inl rfl) (se_tup (sa_cons (se_var 2) (sa_cons (se_var 4) (sa_cons (se_var 5) (sa_cons (se_var 6) (sa_cons (se_fr (se_methO 0 c_Reader_take_whole (hr.mono (by omega)) tk (sa_cons se_int (sa_cons se_int sa_nil)))) (sa_cons (se_fr (se_methO 0 c_Reader_take_scene (hr.mono (by omega)) tk (sa_cons (se_bin ops_add (se_var 1) se_int) sa_nil))) sa_nil)))))))))))) (sb_cons (ss_set (i := 6) sc_Reader_take_scene.nd rfl (Or.inl rfl) (se_methO 0 c_Reader_take_whole (hr.mono (by omega)) tk (sa_cons se_int (sa_cons se_int sa_nil))))
    (sb_one (ss_ret (se_tup (sa_cons (se_var 2) (sa_cons (se_var 6) (sa_cons (se_fr (se_methO 0 c_Reader_take_whole (hr.mono (by omega)) tk (sa_cons se_int (sa_cons se_int sa_nil)))) (sa_cons (se_fr (se_methO 0 c_Reader_take_parts (hr.mono (by omega)) tk (sa_cons (se_bin ops_add (se_var 1) se_int) sa_nil))) sa_nil)))))))))))))
    (sb_cons (ss_expr (se_methO 0 c_Reader_take (hr.mono (by omega)) tk (sa_cons (se_tup (sa_cons se_str sa_nil)) sa_nil)))
    (sb_one (ss_ret (se_move 3)))))))))
theorem snd_Reader_take_parts {n : Nat} {F_Reader_take_scene : FnT} (B : Bi mg) (BX : Bx P wd K mg ca) (c_Reader_take : MeC P wd K mg base ca 4 "take" 16 [] F_Reader_take) (c_Reader_take_scene : MeC P wd K mg base ca (n + 6) "take_scene" 16 [] F_Reader_take_scene) (c_Reader_take_whole : MeC P wd K mg base ca 4 "take_whole" 16 [] F_Reader_take_whole)  {cdv : Value} {A : Around} {outer : List Env} {s : Shared} {H : Hp} {E : XK} {f : Addr} (hr : RoomG (n + 6) (A.deeper (envOfC "Reader.take_parts" (defScope s_Reader_take_parts) s.heap.objs.size f cdv))) :
    SB (cxOf (L2.CX P wd) P wd K mg base [("self" : PySem.Str), ("deep" : PySem.Str), ("parts" : PySem.Str), ("places" : PySem.Str), ("turn" : PySem.Str)] "Reader.take_parts" (defScope s_Reader_take_parts) f cdv A outer s H E) ca (fun cls d _ H => E cls d H) (List.range 2) (defBody s_Reader_take_parts) (den_Reader_take_parts F_Reader_take_scene) := by
  obtain ⟨t_FAR, h_FAR⟩ := B.g_FAR
  have tk : Takes (cxOf (L2.CX P wd) P wd K mg base [("self" : PySem.Str), ("deep" : PySem.Str), ("parts" : PySem.Str), ("places" : PySem.Str), ("turn" : PySem.Str)] "Reader.take_parts" (defScope s_Reader_take_parts) f cdv A outer s H E) (fun cls d _ H => E cls d H) := takes_of rfl rfl rfl rfl
  have hpo : PassesOwn (model P wd) (cxOf (L2.CX P wd) P wd K mg base [("self" : PySem.Str), ("deep" : PySem.Str), ("parts" : PySem.Str), ("places" : PySem.Str), ("turn" : PySem.Str)] "Reader.take_parts" (defScope s_Reader_take_parts) f cdv A outer s H E).A (cxOf (L2.CX P wd) P wd K mg base [("self" : PySem.Str), ("deep" : PySem.Str), ("parts" : PySem.Str), ("places" : PySem.Str), ("turn" : PySem.Str)] "Reader.take_parts" (defScope s_Reader_take_parts) f cdv A outer s H E).env (cxOf (L2.CX P wd) P wd K mg base [("self" : PySem.Str), ("deep" : PySem.Str), ("parts" : PySem.Str), ("places" : PySem.Str), ("turn" : PySem.Str)] "Reader.take_parts" (defScope s_Reader_take_parts) f cdv A outer s H E).xe := passes_of rfl
  exact (sb_cons (ss_set (i := 2) sc_Reader_take_parts.nd rfl (Or.inl rfl) (se_lst sa_nil))
    (sb_cons (ss_while hpo (st_cmp (ops_eq hr.units) (se_fr (se_methO 0 c_Reader_take (hr.mono (by omega)) tk (sa_cons (se_tup (sa_cons se_str (sa_cons se_str sa_nil))) sa_nil))) se_str) (sb_cons (ss_setLc (i := 3) rfl (si_range1 B.range (sa_cons se_int sa_nil)) (Blk.mk (own := [(("turn" : PySem.Str), 4)]) (ch := [4]) (blkOk_by (N := [("self" : PySem.Str), ("deep" : PySem.Str), ("parts" : PySem.Str), ("places" : PySem.Str), ("turn" : PySem.Str)]) (sc := defScope s_Reader_take_parts) (by decide +kernel)) sc_Reader_take_parts.nd (fun _ _ _ _ _ => (sg_name (i := 4) sc_Reader_take_parts.nd rfl (Or.inl rfl))) (fun _ _ _ _ _ => sts_nil) (fun _ _ _ _ _ => (se_fr (se_methO 0 c_Reader_take_whole (hr.mono (by omega)) takes_WF (sa_cons (se_un uns_neg (se_gint h_FAR)) (sa_cons (se_gint h_FAR) sa_nil))))) (by decide)))
    (sb_cons (ss_expr (se_append 2 (se_bin ops_add (se_bt cs_tuple B.tuple_ PyProof.Rows.boot_tuple (sa_cons (se_var 3) sa_nil)) (se_tup (sa_cons (se_fr (se_methO 0 c_Reader_take_scene (hr.mono (by omega)) tk (sa_cons (se_var 1) sa_nil))) sa_nil)))))
    (sb_one (ss_expr (se_methO 0 c_Reader_take (hr.mono (by omega)) tk (sa_cons (se_tup (sa_cons se_str sa_nil)) sa_nil)))))))
    (sb_one (ss_ret (se_bt cs_tuple B.tuple_ PyProof.Rows.boot_tuple (sa_cons (se_var 2) sa_nil))))))
theorem snd_read_scene (B : Bi mg) (BX : Bx P wd K mg ca) (c_Reader_init : MkC P wd K mg base ca 1 "Reader" 16 [] F_Reader_init) (c_Reader_take_scene : MeC P wd K mg base ca 34 "take_scene" 16 [] F_Reader_take_scene)  {cdv : Value} {A : Around} {outer : List Env} {s : Shared} {H : Hp} {E : XK} {f : Addr} (hr : RoomG 34 (A.deeper (envOfC "read_scene" (defScope s_read_scene) s.heap.objs.size f cdv))) :
    SB (cxOf (L2.CX P wd) P wd K mg base [("text" : PySem.Str), ("reader" : PySem.Str), ("scene" : PySem.Str)] "read_scene" (defScope s_read_scene) f cdv A outer s H E) ca (fun cls d _ H => E cls d H) [] (defBody s_read_scene) (den_read_scene) := by
  have tk : Takes (cxOf (L2.CX P wd) P wd K mg base [("text" : PySem.Str), ("reader" : PySem.Str), ("scene" : PySem.Str)] "read_scene" (defScope s_read_scene) f cdv A outer s H E) (fun cls d _ H => E cls d H) := takes_of rfl rfl rfl rfl
  have hpo : PassesOwn (model P wd) (cxOf (L2.CX P wd) P wd K mg base [("text" : PySem.Str), ("reader" : PySem.Str), ("scene" : PySem.Str)] "read_scene" (defScope s_read_scene) f cdv A outer s H E).A (cxOf (L2.CX P wd) P wd K mg base [("text" : PySem.Str), ("reader" : PySem.Str), ("scene" : PySem.Str)] "read_scene" (defScope s_read_scene) f cdv A outer s H E).env (cxOf (L2.CX P wd) P wd K mg base [("text" : PySem.Str), ("reader" : PySem.Str), ("scene" : PySem.Str)] "read_scene" (defScope s_read_scene) f cdv A outer s H E).xe := passes_of rfl
  exact (sb_cons (ss_set (i := 1) sc_read_scene.nd rfl (Or.inl rfl) (se_make c_Reader_init (hr.mono (by decide)) tk (sa_cons (se_var 0) sa_nil)))
    (sb_cons (ss_set (i := 2) sc_read_scene.nd rfl (Or.inl rfl) (se_methO 1 c_Reader_take_scene (hr.mono (by decide)) tk (sa_cons se_int sa_nil)))
    (sb_cons (ss_if (st_cmp ops_lt (se_fldO 1 BX.ob_here) (se_bi cs_len B.len PySem.boot_len (sa_cons (se_fldO 1 BX.ob_signs) sa_nil))) (sb_one (ss_raiseF (k := 13) BX.i_NoText tk hr (sa_cons (se_fldO 1 BX.ob_here) sa_nil))) sb_nil)
    (sb_one (ss_ret (se_move 2))))))
theorem snd_words_of (B : Bi mg) (BX : Bx P wd K mg ca)   {cdv : Value} {A : Around} {outer : List Env} {s : Shared} {H : Hp} {E : XK} {f : Addr} (hr : RoomG 0 (A.deeper (envOfC "words_of" (defScope s_words_of) s.heap.objs.size f cdv))) :
    SB (cxOf (L2.CX P wd) P wd K mg base [("some" : PySem.Str), ("one" : PySem.Str)] "words_of" (defScope s_words_of) f cdv A outer s H E) ca (fun cls d _ H => E cls d H) [] (defBody s_words_of) (den_words_of) := by
  have tk : Takes (cxOf (L2.CX P wd) P wd K mg base [("some" : PySem.Str), ("one" : PySem.Str)] "words_of" (defScope s_words_of) f cdv A outer s H E) (fun cls d _ H => E cls d H) := takes_of rfl rfl rfl rfl
  have hpo : PassesOwn (model P wd) (cxOf (L2.CX P wd) P wd K mg base [("some" : PySem.Str), ("one" : PySem.Str)] "words_of" (defScope s_words_of) f cdv A outer s H E).A (cxOf (L2.CX P wd) P wd K mg base [("some" : PySem.Str), ("one" : PySem.Str)] "words_of" (defScope s_words_of) f cdv A outer s H E).env (cxOf (L2.CX P wd) P wd K mg base [("some" : PySem.Str), ("one" : PySem.Str)] "words_of" (defScope s_words_of) f cdv A outer s H E).xe := passes_of rfl
  exact (sb_one (ss_ret (se_t1 mtt_join se_str (se_fr (se_lc rfl (si_val (se_var 0)) (Blk.mk (own := [(("one" : PySem.Str), 1)]) (ch := [1]) (blkOk_by (N := [("some" : PySem.Str), ("one" : PySem.Str)]) (sc := defScope s_words_of) (by decide +kernel)) sc_words_of.nd (fun _ _ _ _ _ => (sg_name (i := 1) sc_words_of.nd rfl (Or.inl rfl))) (fun _ _ _ _ _ => sts_nil) (fun _ _ _ _ _ => (se_bin ops_add (se_bt cs_str B.str_ PyProof.Rows.boot_str (sa_cons (se_var 1) sa_nil)) se_str)) (by decide)))))))
theorem snd_scene_text {n : Nat} {F_scene_text : FnT} (B : Bi mg) (BX : Bx P wd K mg ca) (c_drawing_of : Cal P wd K mg base ca 3 "drawing_of" [] F_drawing_of) (c_words_of : Cal P wd K mg base ca 1 "words_of" [] F_words_of) (c_scene_text : Cal P wd K mg base ca (n + 3) "scene_text" [] F_scene_text) {cdv : Value} {A : Around} {outer : List Env} {s : Shared} {H : Hp} {E : XK} {f : Addr} (hr : RoomG (n + 3) (A.deeper (envOfC "scene_text" (defScope s_scene_text) s.heap.objs.size f cdv))) :
    SB (cxOf (L2.CX P wd) P wd K mg base [("scene" : PySem.Str), ("parts" : PySem.Str), ("part" : PySem.Str)] "scene_text" (defScope s_scene_text) f cdv A outer s H E) ca (fun cls d _ H => E cls d H) [] (defBody s_scene_text) (den_scene_text F_scene_text) := by
  have tk : Takes (cxOf (L2.CX P wd) P wd K mg base [("scene" : PySem.Str), ("parts" : PySem.Str), ("part" : PySem.Str)] "scene_text" (defScope s_scene_text) f cdv A outer s H E) (fun cls d _ H => E cls d H) := takes_of rfl rfl rfl rfl
  have hpo : PassesOwn (model P wd) (cxOf (L2.CX P wd) P wd K mg base [("scene" : PySem.Str), ("parts" : PySem.Str), ("part" : PySem.Str)] "scene_text" (defScope s_scene_text) f cdv A outer s H E).A (cxOf (L2.CX P wd) P wd K mg base [("scene" : PySem.Str), ("parts" : PySem.Str), ("part" : PySem.Str)] "scene_text" (defScope s_scene_text) f cdv A outer s H E).env (cxOf (L2.CX P wd) P wd K mg base [("scene" : PySem.Str), ("parts" : PySem.Str), ("part" : PySem.Str)] "scene_text" (defScope s_scene_text) f cdv A outer s H E).xe := passes_of rfl
  exact (sb_cons (ss_if (st_cmp (ops_eq hr.units) (se_ixV 0 se_int) se_str) (sb_one (ss_ret (se_bin ops_add (se_bin ops_add se_str (se_fr (se_call c_drawing_of (hr.mono (by omega)) tk (sa_cons (se_ixV 0 se_int) sa_nil)))) se_str))) sb_nil)
    (sb_cons (ss_if (st_cmp (ops_eq hr.units) (se_ixV 0 se_int) se_str) (sb_one (ss_ret (se_bin ops_add (se_bin ops_add (se_bin ops_add se_str (se_fr (se_call c_words_of (hr.mono (by omega)) tk (sa_cons (se_fr (se_slice (se_var 0) (so_some se_int) (so_some se_int))) sa_nil)))) (se_fr (se_call c_scene_text hr tk (sa_cons (se_ixV 0 se_int) sa_nil)))) se_str))) sb_nil)
    (sb_cons (ss_if (st_cmp (ops_eq hr.units) (se_ixV 0 se_int) se_str) (sb_one (ss_ret (se_bin ops_add (se_bin ops_add (se_bin ops_add se_str (se_fr (se_call c_words_of (hr.mono (by omega)) tk (sa_cons (se_fr (se_slice (se_var 0) (so_some se_int) (so_some se_int))) sa_nil)))) (se_fr (se_call c_scene_text hr tk (sa_cons (se_ixV 0 se_int) sa_nil)))) se_str))) sb_nil)
    (sb_cons (ss_setLc (i := 1) rfl (si_val (se_ixV 0 se_int)) (Blk.mk (own := [(("part" : PySem.Str), 2)]) (ch := [2]) (blkOk_by (N := [("scene" : PySem.Str), ("parts" : PySem.Str), ("part" : PySem.Str)]) (sc := defScope s_scene_text) (by decide +kernel)) sc_scene_text.nd (fun _ _ _ _ _ => (sg_name (i := 2) sc_scene_text.nd rfl (Or.inl rfl))) (fun _ _ _ _ _ => sts_nil) (fun _ _ _ _ _ => (se_bin ops_add (se_bin ops_add (se_bin ops_add se_str (se_fr (se_call c_words_of (hr.mono (by omega)) takes_WF (sa_cons (se_fr (se_slice (se_var 2) so_none (so_some se_int))) sa_nil)))) (se_fr (se_call c_scene_text hr takes_WF (sa_cons (se_ixV 2 se_int) sa_nil)))) se_str)) (by decide)))
    (sb_one (ss_ret (se_bin ops_add (se_bin ops_add (se_bin ops_add se_str (se_fr (se_call c_words_of (hr.mono (by omega)) tk (sa_cons (se_fr (se_slice (se_var 0) (so_some se_int) (so_some se_int))) sa_nil)))) (se_t1 mtt_join se_str (se_var 1))) se_str)))))))
theorem snd_L_cell_at (B : Bi mg) (BX : Bx P wd K mg ca)   {cdv : Value} {A : Around} {outer : List Env} {s : Shared} {H : Hp} {E : XK} {f : Addr} (hr : RoomG 0 (A.deeper (envOfC "_law_cell_at" (defScope s_L_cell_at) s.heap.objs.size f cdv))) :
    SB (cxOf (L2.CX P wd) P wd K mg base [("_law_script" : PySem.Str), ("_law_k" : PySem.Str)] "_law_cell_at" (defScope s_L_cell_at) f cdv A outer s H E) ca (fun cls d _ H => E cls d H) [] (defBody s_L_cell_at) (den_L_cell_at) := by
  have tk : Takes (cxOf (L2.CX P wd) P wd K mg base [("_law_script" : PySem.Str), ("_law_k" : PySem.Str)] "_law_cell_at" (defScope s_L_cell_at) f cdv A outer s H E) (fun cls d _ H => E cls d H) := takes_of rfl rfl rfl rfl
  have hpo : PassesOwn (model P wd) (cxOf (L2.CX P wd) P wd K mg base [("_law_script" : PySem.Str), ("_law_k" : PySem.Str)] "_law_cell_at" (defScope s_L_cell_at) f cdv A outer s H E).A (cxOf (L2.CX P wd) P wd K mg base [("_law_script" : PySem.Str), ("_law_k" : PySem.Str)] "_law_cell_at" (defScope s_L_cell_at) f cdv A outer s H E).env (cxOf (L2.CX P wd) P wd K mg base [("_law_script" : PySem.Str), ("_law_k" : PySem.Str)] "_law_cell_at" (defScope s_L_cell_at) f cdv A outer s H E).xe := passes_of rfl
  exact (sb_cons (ss_if (st_cmp ops_lt (se_var 1) (se_lenV 0 B.len)) (sb_one (ss_ret (se_ixV 0 (se_var 1)))) sb_nil)
    (sb_one (ss_ret se_int)))
theorem snd_L_pick (B : Bi mg) (BX : Bx P wd K mg ca)   {cdv : Value} {A : Around} {outer : List Env} {s : Shared} {H : Hp} {E : XK} {f : Addr} (hr : RoomG 0 (A.deeper (envOfC "_law_pick" (defScope s_L_pick) s.heap.objs.size f cdv))) :
    SB (cxOf (L2.CX P wd) P wd K mg base [("_law_number" : PySem.Str), ("_law_turn" : PySem.Str), ("_law_many" : PySem.Str), ("_law_mixed" : PySem.Str)] "_law_pick" (defScope s_L_pick) f cdv A outer s H E) ca (fun cls d _ H => E cls d H) [] (defBody s_L_pick) (den_L_pick) := by
  have tk : Takes (cxOf (L2.CX P wd) P wd K mg base [("_law_number" : PySem.Str), ("_law_turn" : PySem.Str), ("_law_many" : PySem.Str), ("_law_mixed" : PySem.Str)] "_law_pick" (defScope s_L_pick) f cdv A outer s H E) (fun cls d _ H => E cls d H) := takes_of rfl rfl rfl rfl
  have hpo : PassesOwn (model P wd) (cxOf (L2.CX P wd) P wd K mg base [("_law_number" : PySem.Str), ("_law_turn" : PySem.Str), ("_law_many" : PySem.Str), ("_law_mixed" : PySem.Str)] "_law_pick" (defScope s_L_pick) f cdv A outer s H E).A (cxOf (L2.CX P wd) P wd K mg base [("_law_number" : PySem.Str), ("_law_turn" : PySem.Str), ("_law_many" : PySem.Str), ("_law_mixed" : PySem.Str)] "_law_pick" (defScope s_L_pick) f cdv A outer s H E).env (cxOf (L2.CX P wd) P wd K mg base [("_law_number" : PySem.Str), ("_law_turn" : PySem.Str), ("_law_many" : PySem.Str), ("_law_mixed" : PySem.Str)] "_law_pick" (defScope s_L_pick) f cdv A outer s H E).xe := passes_of rfl
  exact (sb_cons (ss_set (i := 3) sc_L_pick.nd rfl (Or.inl rfl) (se_bin ops_mod (se_bin ops_mul (se_bin ops_add (se_bin ops_add (se_bin ops_mod (se_var 0) se_int) (se_fr (se_bin ops_mul (se_fr (se_bin ops_mul se_int (se_var 1))) (se_var 1)))) se_int) (se_bin ops_add se_int (se_fr (se_bin ops_mul se_int (se_var 1))))) se_int))
    (sb_one (ss_ret (se_bin ops_mod (se_bin ops_div (se_var 3) se_int) (se_var 2)))))
theorem snd_L_cells (B : Bi mg) (BX : Bx P wd K mg ca) (c_L_cell_at : Cal P wd K mg base ca 1 "_law_cell_at" [] F_L_cell_at) (c_L_pick : Cal P wd K mg base ca 1 "_law_pick" [] F_L_pick)  {cdv : Value} {A : Around} {outer : List Env} {s : Shared} {H : Hp} {E : XK} {f : Addr} (hr : RoomG 1 (A.deeper (envOfC "_law_cells" (defScope s_L_cells) s.heap.objs.size f cdv))) :
    SB (cxOf (L2.CX P wd) P wd K mg base [("_law_script" : PySem.Str), ("_law_first" : PySem.Str), ("_law_most" : PySem.Str), ("_law_cell" : PySem.Str), ("_law_some" : PySem.Str), ("_law_j" : PySem.Str)] "_law_cells" (defScope s_L_cells) f cdv A outer s H E) ca (fun cls d _ H => E cls d H) [] (defBody s_L_cells) (den_L_cells) := by
  have tk : Takes (cxOf (L2.CX P wd) P wd K mg base [("_law_script" : PySem.Str), ("_law_first" : PySem.Str), ("_law_most" : PySem.Str), ("_law_cell" : PySem.Str), ("_law_some" : PySem.Str), ("_law_j" : PySem.Str)] "_law_cells" (defScope s_L_cells) f cdv A outer s H E) (fun cls d _ H => E cls d H) := takes_of rfl rfl rfl rfl
  have hpo : PassesOwn (model P wd) (cxOf (L2.CX P wd) P wd K mg base [("_law_script" : PySem.Str), ("_law_first" : PySem.Str), ("_law_most" : PySem.Str), ("_law_cell" : PySem.Str), ("_law_some" : PySem.Str), ("_law_j" : PySem.Str)] "_law_cells" (defScope s_L_cells) f cdv A outer s H E).A (cxOf (L2.CX P wd) P wd K mg base [("_law_script" : PySem.Str), ("_law_first" : PySem.Str), ("_law_most" : PySem.Str), ("_law_cell" : PySem.Str), ("_law_some" : PySem.Str), ("_law_j" : PySem.Str)] "_law_cells" (defScope s_L_cells) f cdv A outer s H E).env (cxOf (L2.CX P wd) P wd K mg base [("_law_script" : PySem.Str), ("_law_first" : PySem.Str), ("_law_most" : PySem.Str), ("_law_cell" : PySem.Str), ("_law_some" : PySem.Str), ("_law_j" : PySem.Str)] "_law_cells" (defScope s_L_cells) f cdv A outer s H E).xe := passes_of rfl
  exact (sb_cons (ss_set (i := 3) sc_L_cells.nd rfl (Or.inl rfl) (se_call c_L_cell_at (hr.mono (by decide)) tk (sa_cons (se_var 0) (sa_cons se_int sa_nil))))
    (sb_cons (ss_set (i := 4) sc_L_cells.nd rfl (Or.inl rfl) (se_bt cs_list B.list_ PyProof.Rows.boot_list (sa_cons (se_fr (se_slice (se_var 0) (so_some (se_var 1)) (so_some (se_bin ops_add (se_var 1) (se_var 2))))) sa_nil)))
    (sb_cons (ss_for (ch := [5]) hpo rfl (si_range1 B.range (sa_cons (se_fr (se_call c_L_pick (hr.mono (by decide)) tk (sa_cons (se_var 3) (sa_cons se_int (sa_cons (se_var 2) sa_nil))))) sa_nil)) (sg_name (i := 5) sc_L_cells.nd rfl (Or.inl rfl)) (sb_one (ss_expr (se_append 4 (se_bin ops_add (se_fr (se_bin ops_add (se_fr (se_bin ops_mul (se_var 3) se_int)) (se_fr (se_bin ops_mul (se_fr (se_bin ops_mul se_int (se_var 5))) (se_var 5))))) se_int)))))
    (sb_one (ss_ret (se_slice (se_var 4) so_none (so_some (se_var 2))))))))
theorem snd_L_picture (B : Bi mg) (BX : Bx P wd K mg ca)   {cdv : Value} {A : Around} {outer : List Env} {s : Shared} {H : Hp} {E : XK} {f : Addr} (hr : RoomG 0 (A.deeper (envOfC "_law_picture" (defScope s_L_picture) s.heap.objs.size f cdv))) :
    SB (cxOf (L2.CX P wd) P wd K mg base [("_law_rows" : PySem.Str), ("_law_paints" : PySem.Str), ("_law_masks" : PySem.Str), ("_law_row" : PySem.Str), ("_law_paint" : PySem.Str), ("_law_mask" : PySem.Str), ("_law_x" : PySem.Str)] "_law_picture" (defScope s_L_picture) f cdv A outer s H E) ca (fun cls d _ H => E cls d H) [] (defBody s_L_picture) (den_L_picture) := by
  have tk : Takes (cxOf (L2.CX P wd) P wd K mg base [("_law_rows" : PySem.Str), ("_law_paints" : PySem.Str), ("_law_masks" : PySem.Str), ("_law_row" : PySem.Str), ("_law_paint" : PySem.Str), ("_law_mask" : PySem.Str), ("_law_x" : PySem.Str)] "_law_picture" (defScope s_L_picture) f cdv A outer s H E) (fun cls d _ H => E cls d H) := takes_of rfl rfl rfl rfl
  have hpo : PassesOwn (model P wd) (cxOf (L2.CX P wd) P wd K mg base [("_law_rows" : PySem.Str), ("_law_paints" : PySem.Str), ("_law_masks" : PySem.Str), ("_law_row" : PySem.Str), ("_law_paint" : PySem.Str), ("_law_mask" : PySem.Str), ("_law_x" : PySem.Str)] "_law_picture" (defScope s_L_picture) f cdv A outer s H E).A (cxOf (L2.CX P wd) P wd K mg base [("_law_rows" : PySem.Str), ("_law_paints" : PySem.Str), ("_law_masks" : PySem.Str), ("_law_row" : PySem.Str), ("_law_paint" : PySem.Str), ("_law_mask" : PySem.Str), ("_law_x" : PySem.Str)] "_law_picture" (defScope s_L_picture) f cdv A outer s H E).env (cxOf (L2.CX P wd) P wd K mg base [("_law_rows" : PySem.Str), ("_law_paints" : PySem.Str), ("_law_masks" : PySem.Str), ("_law_row" : PySem.Str), ("_law_paint" : PySem.Str), ("_law_mask" : PySem.Str), ("_law_x" : PySem.Str)] "_law_picture" (defScope s_L_picture) f cdv A outer s H E).xe := passes_of rfl
  exact (sb_cons (ss_set (i := 1) sc_L_picture.nd rfl (Or.inl rfl) (se_lst sa_nil))
    (sb_cons (ss_set (i := 2) sc_L_picture.nd rfl (Or.inl rfl) (se_lst sa_nil))
    (sb_cons (ss_for (ch := [3]) hpo rfl (si_val (se_var 0)) (sg_name (i := 3) sc_L_picture.nd rfl (Or.inl rfl)) (sb_cons (ss_set (i := 4) sc_L_picture.nd rfl (Or.inl rfl) se_int)
    (sb_cons (ss_set (i := 5) sc_L_picture.nd rfl (Or.inl rfl) se_int)
    (sb_cons (ss_for (ch := [6]) hpo rfl (si_range1 B.range (sa_cons (se_lenV 3 B.len) sa_nil)) (sg_name (i := 6) sc_L_picture.nd rfl (Or.inl rfl)) (sb_one (ss_if (st_cmp ops_isnot (se_ixV 3 (se_var 6)) se_non) (sb_cons (ss_set (i := 4) sc_L_picture.nd rfl (Or.inl rfl) (se_bin ops_add (se_var 4) (se_bin ops_shl (se_ixV 3 (se_var 6)) (se_fr (se_bin ops_mul se_int (se_var 6))))))
    (sb_one (ss_set (i := 5) sc_L_picture.nd rfl (Or.inl rfl) (se_bin ops_add (se_var 5) (se_bin ops_shl se_int (se_var 6)))))) sb_nil)))
    (sb_cons (ss_expr (se_append 1 (se_var 4)))
    (sb_one (ss_expr (se_append 2 (se_var 5)))))))))
    (sb_one (ss_ret (se_tup (sa_cons (se_bi cs_len B.len PySem.boot_len (sa_cons (se_ixV 0 se_int) sa_nil)) (sa_cons (se_lenV 0 B.len) (sa_cons (se_bt cs_tuple B.tuple_ PyProof.Rows.boot_tuple (sa_cons (se_var 1) sa_nil)) (sa_cons (se_bt cs_tuple B.tuple_ PyProof.Rows.boot_tuple (sa_cons (se_var 2) sa_nil)) sa_nil))))))))))
theorem snd_L_pic_by (B : Bi mg) (BX : Bx P wd K mg ca) (c_L_pick : Cal P wd K mg base ca 1 "_law_pick" [] F_L_pick) (c_L_picture : Cal P wd K mg base ca 1 "_law_picture" [] F_L_picture)  {cdv : Value} {A : Around} {outer : List Env} {s : Shared} {H : Hp} {E : XK} {f : Addr} (hr : RoomG 1 (A.deeper (envOfC "_law_pic_by" (defScope s_L_pic_by) s.heap.objs.size f cdv))) :
    SB (cxOf (L2.CX P wd) P wd K mg base [("_law_cell" : PySem.Str), ("_law_wide" : PySem.Str), ("_law_high" : PySem.Str), ("_law_rows" : PySem.Str), ("_law_y" : PySem.Str), ("_law_row" : PySem.Str), ("_law_x" : PySem.Str), ("_law_one" : PySem.Str)] "_law_pic_by" (defScope s_L_pic_by) f cdv A outer s H E) ca (fun cls d _ H => E cls d H) [] (defBody s_L_pic_by) (den_L_pic_by) := by
  have tk : Takes (cxOf (L2.CX P wd) P wd K mg base [("_law_cell" : PySem.Str), ("_law_wide" : PySem.Str), ("_law_high" : PySem.Str), ("_law_rows" : PySem.Str), ("_law_y" : PySem.Str), ("_law_row" : PySem.Str), ("_law_x" : PySem.Str), ("_law_one" : PySem.Str)] "_law_pic_by" (defScope s_L_pic_by) f cdv A outer s H E) (fun cls d _ H => E cls d H) := takes_of rfl rfl rfl rfl
  have hpo : PassesOwn (model P wd) (cxOf (L2.CX P wd) P wd K mg base [("_law_cell" : PySem.Str), ("_law_wide" : PySem.Str), ("_law_high" : PySem.Str), ("_law_rows" : PySem.Str), ("_law_y" : PySem.Str), ("_law_row" : PySem.Str), ("_law_x" : PySem.Str), ("_law_one" : PySem.Str)] "_law_pic_by" (defScope s_L_pic_by) f cdv A outer s H E).A (cxOf (L2.CX P wd) P wd K mg base [("_law_cell" : PySem.Str), ("_law_wide" : PySem.Str), ("_law_high" : PySem.Str), ("_law_rows" : PySem.Str), ("_law_y" : PySem.Str), ("_law_row" : PySem.Str), ("_law_x" : PySem.Str), ("_law_one" : PySem.Str)] "_law_pic_by" (defScope s_L_pic_by) f cdv A outer s H E).env (cxOf (L2.CX P wd) P wd K mg base [("_law_cell" : PySem.Str), ("_law_wide" : PySem.Str), ("_law_high" : PySem.Str), ("_law_rows" : PySem.Str), ("_law_y" : PySem.Str), ("_law_row" : PySem.Str), ("_law_x" : PySem.Str), ("_law_one" : PySem.Str)] "_law_pic_by" (defScope s_L_pic_by) f cdv A outer s H E).xe := passes_of rfl
  exact (sb_cons (ss_set (i := 1) sc_L_pic_by.nd rfl (Or.inl rfl) (se_bin ops_add se_int (se_fr (se_call c_L_pick (hr.mono (by decide)) tk (sa_cons (se_var 0) (sa_cons se_int (sa_cons se_int sa_nil)))))))
    (sb_cons (ss_set (i := 2) sc_L_pic_by.nd rfl (Or.inl rfl) (se_bin ops_add se_int (se_fr (se_call c_L_pick (hr.mono (by decide)) tk (sa_cons (se_var 0) (sa_cons se_int (sa_cons se_int sa_nil)))))))
    (sb_cons (ss_if (st_cmp (ops_eq hr.units) (se_fr (se_call c_L_pick (hr.mono (by decide)) tk (sa_cons (se_var 0) (sa_cons se_int (sa_cons se_int sa_nil))))) se_int) (sb_one (ss_set (i := 1) sc_L_pic_by.nd rfl (Or.inl rfl) se_int)) sb_nil)
    (sb_cons (ss_set (i := 3) sc_L_pic_by.nd rfl (Or.inl rfl) (se_lst sa_nil))
    (sb_cons (ss_for (ch := [4]) hpo rfl (si_range1 B.range (sa_cons (se_var 2) sa_nil)) (sg_name (i := 4) sc_L_pic_by.nd rfl (Or.inr rfl)) (sb_cons (ss_setLc (i := 5) rfl (si_range1 B.range (sa_cons (se_var 1) sa_nil)) (Blk.mk (own := [(("_law_x" : PySem.Str), 6)]) (ch := [6]) (blkOk_by (N := [("_law_cell" : PySem.Str), ("_law_wide" : PySem.Str), ("_law_high" : PySem.Str), ("_law_rows" : PySem.Str), ("_law_y" : PySem.Str), ("_law_row" : PySem.Str), ("_law_x" : PySem.Str), ("_law_one" : PySem.Str)]) (sc := defScope s_L_pic_by) (by decide +kernel)) sc_L_pic_by.nd (fun _ _ _ _ _ => (sg_name (i := 6) sc_L_pic_by.nd rfl (Or.inl rfl))) (fun _ _ _ _ _ => sts_nil) (fun _ _ _ _ _ => (se_fr (se_call c_L_pick (hr.mono (by decide)) takes_WF (sa_cons (se_var 0) (sa_cons (se_bin ops_add (se_bin ops_add se_int (se_fr (se_bin ops_mul se_int (se_var 4)))) (se_var 6)) (sa_cons se_int sa_nil)))))) (by decide)))
    (sb_one (ss_expr (se_append 3 (se_lc rfl (si_val (se_var 5)) (Blk.mk (own := [(("_law_one" : PySem.Str), 7)]) (ch := [7]) (blkOk_by (N := [("_law_cell" : PySem.Str), ("_law_wide" : PySem.Str), ("_law_high" : PySem.Str), ("_law_rows" : PySem.Str), ("_law_y" : PySem.Str), ("_law_row" : PySem.Str), ("_law_x" : PySem.Str), ("_law_one" : PySem.Str)]) (sc := defScope s_L_pic_by) (by decide +kernel)) sc_L_pic_by.nd (fun _ _ _ _ _ => (sg_name (i := 7) sc_L_pic_by.nd rfl (Or.inl rfl))) (fun _ _ _ _ _ => sts_nil) (fun _ _ _ _ _ => (se_fr (se_if (st_cmp ops_gt (se_var 7) se_int) se_non (se_var 7)))) (by decide))))))))
    (sb_one (ss_ret (se_call c_L_picture (hr.mono (by decide)) tk (sa_cons (se_var 3) sa_nil)))))))))
theorem snd_L_place (B : Bi mg) (BX : Bx P wd K mg ca) (c_L_pick : Cal P wd K mg base ca 1 "_law_pick" [] F_L_pick)  {cdv : Value} {A : Around} {outer : List Env} {s : Shared} {H : Hp} {E : XK} {f : Addr} (hr : RoomG 1 (A.deeper (envOfC "_law_place" (defScope s_L_place) s.heap.objs.size f cdv))) :
    SB (cxOf (L2.CX P wd) P wd K mg base [("_law_cell" : PySem.Str), ("_law_turn" : PySem.Str)] "_law_place" (defScope s_L_place) f cdv A outer s H E) ca (fun cls d _ H => E cls d H) [] (defBody s_L_place) (den_L_place) := by
  have tk : Takes (cxOf (L2.CX P wd) P wd K mg base [("_law_cell" : PySem.Str), ("_law_turn" : PySem.Str)] "_law_place" (defScope s_L_place) f cdv A outer s H E) (fun cls d _ H => E cls d H) := takes_of rfl rfl rfl rfl
  have hpo : PassesOwn (model P wd) (cxOf (L2.CX P wd) P wd K mg base [("_law_cell" : PySem.Str), ("_law_turn" : PySem.Str)] "_law_place" (defScope s_L_place) f cdv A outer s H E).A (cxOf (L2.CX P wd) P wd K mg base [("_law_cell" : PySem.Str), ("_law_turn" : PySem.Str)] "_law_place" (defScope s_L_place) f cdv A outer s H E).env (cxOf (L2.CX P wd) P wd K mg base [("_law_cell" : PySem.Str), ("_law_turn" : PySem.Str)] "_law_place" (defScope s_L_place) f cdv A outer s H E).xe := passes_of rfl
  exact (sb_cons (ss_if (st_cmp (ops_eq hr.units) (se_fr (se_call c_L_pick (hr.mono (by decide)) tk (sa_cons (se_var 0) (sa_cons (se_var 1) (sa_cons se_int sa_nil))))) se_int) (sb_one (ss_ret (se_ix (se_fr (se_lst (sa_cons (se_bin ops_pow se_int se_int) (sa_cons (se_un uns_neg (se_bin ops_pow se_int se_int)) (sa_cons se_int (sa_cons (se_un uns_neg se_int) sa_nil)))))) (se_call c_L_pick (hr.mono (by decide)) tk (sa_cons (se_var 0) (sa_cons (se_bin ops_add (se_var 1) se_int) (sa_cons se_int sa_nil))))))) sb_nil)
    (sb_one (ss_ret (se_bin ops_sub (se_fr (se_call c_L_pick (hr.mono (by decide)) tk (sa_cons (se_var 0) (sa_cons (se_bin ops_add (se_var 1) se_int) (sa_cons se_int sa_nil))))) se_int))))
theorem snd_L_size {n : Nat} {F_L_size : FnT} (B : Bi mg) (BX : Bx P wd K mg ca)  (c_L_size : Cal P wd K mg base ca (n + 0) "_law_size" [] F_L_size) {cdv : Value} {A : Around} {outer : List Env} {s : Shared} {H : Hp} {E : XK} {f : Addr} (hr : RoomG (n + 0) (A.deeper (envOfC "_law_size" (defScope s_L_size) s.heap.objs.size f cdv))) :
    SB (cxOf (L2.CX P wd) P wd K mg base [("_law_scene_here" : PySem.Str), ("_law_wide" : PySem.Str), ("_law_high" : PySem.Str)] "_law_size" (defScope s_L_size) f cdv A outer s H E) ca (fun cls d _ H => E cls d H) [] (defBody s_L_size) (den_L_size F_L_size) := by
  have tk : Takes (cxOf (L2.CX P wd) P wd K mg base [("_law_scene_here" : PySem.Str), ("_law_wide" : PySem.Str), ("_law_high" : PySem.Str)] "_law_size" (defScope s_L_size) f cdv A outer s H E) (fun cls d _ H => E cls d H) := takes_of rfl rfl rfl rfl
  have hpo : PassesOwn (model P wd) (cxOf (L2.CX P wd) P wd K mg base [("_law_scene_here" : PySem.Str), ("_law_wide" : PySem.Str), ("_law_high" : PySem.Str)] "_law_size" (defScope s_L_size) f cdv A outer s H E).A (cxOf (L2.CX P wd) P wd K mg base [("_law_scene_here" : PySem.Str), ("_law_wide" : PySem.Str), ("_law_high" : PySem.Str)] "_law_size" (defScope s_L_size) f cdv A outer s H E).env (cxOf (L2.CX P wd) P wd K mg base [("_law_scene_here" : PySem.Str), ("_law_wide" : PySem.Str), ("_law_high" : PySem.Str)] "_law_size" (defScope s_L_size) f cdv A outer s H E).xe := passes_of rfl
  exact (sb_cons (ss_if (st_cmp (ops_eq hr.units) (se_ixV 0 se_int) se_str) (sb_one (ss_ret (se_tup (sa_cons (se_ix (se_ixV 0 se_int) se_int) (sa_cons (se_ix (se_ixV 0 se_int) se_int) sa_nil))))) sb_nil)
    (sb_cons (ss_if (st_cmp (ops_eq hr.units) (se_ixV 0 se_int) se_str) (sb_one (ss_ret (se_tup (sa_cons (se_ixV 0 se_int) (sa_cons (se_ixV 0 se_int) sa_nil))))) sb_nil)
    (sb_cons (ss_if (st_cmp (ops_eq hr.units) (se_ixV 0 se_int) se_str) (sb_one (ss_ret (se_tup (sa_cons (se_ixV 0 se_int) (sa_cons (se_ixV 0 se_int) sa_nil))))) sb_nil)
    (sb_cons (ss_asg (ch := [1, 2]) (se_fr (se_call c_L_size hr tk (sa_cons (se_ixV 0 se_int) sa_nil))) (sg_tup rfl (sgs_cons (sg_name (i := 1) sc_L_size.nd rfl (Or.inl rfl)) (sgs_cons (sg_name (i := 2) sc_L_size.nd rfl (Or.inl rfl)) (sgs_nil (ch := [1, 2])) (by decide)) (by decide)) (dgCons_len (dgCons_len dgNil_len))))
    (sb_one (ss_ret (se_ix (se_fr (se_lst (sa_cons (se_tup (sa_cons (se_var 1) (sa_cons (se_var 2) sa_nil))) (sa_cons (se_tup (sa_cons (se_var 2) (sa_cons (se_var 1) sa_nil))) sa_nil)))) (se_bin ops_mod (se_ixV 0 se_int) se_int))))))))
theorem snd_L_part (B : Bi mg) (BX : Bx P wd K mg ca) (c_L_pick : Cal P wd K mg base ca 1 "_law_pick" [] F_L_pick) (c_L_place : Cal P wd K mg base ca 2 "_law_place" [] F_L_place) (c_L_size : Cal P wd K mg base ca 16 "_law_size" [] F_L_size)  {cdv : Value} {A : Around} {outer : List Env} {s : Shared} {H : Hp} {E : XK} {f : Addr} (hr : RoomG 16 (A.deeper (envOfC "_law_part" (defScope s_L_part) s.heap.objs.size f cdv))) :
    SB (cxOf (L2.CX P wd) P wd K mg base [("_law_cell" : PySem.Str), ("_law_turn" : PySem.Str), ("_law_wide" : PySem.Str), ("_law_high" : PySem.Str), ("_law_inner" : PySem.Str), ("_law_rank" : PySem.Str), ("_law_speeds" : PySem.Str), ("_law_sides" : PySem.Str), ("_law_x" : PySem.Str), ("_law_y" : PySem.Str)] "_law_part" (defScope s_L_part) f cdv A outer s H E) ca (fun cls d _ H => E cls d H) [] (defBody s_L_part) (den_L_part) := by
  have tk : Takes (cxOf (L2.CX P wd) P wd K mg base [("_law_cell" : PySem.Str), ("_law_turn" : PySem.Str), ("_law_wide" : PySem.Str), ("_law_high" : PySem.Str), ("_law_inner" : PySem.Str), ("_law_rank" : PySem.Str), ("_law_speeds" : PySem.Str), ("_law_sides" : PySem.Str), ("_law_x" : PySem.Str), ("_law_y" : PySem.Str)] "_law_part" (defScope s_L_part) f cdv A outer s H E) (fun cls d _ H => E cls d H) := takes_of rfl rfl rfl rfl
  have hpo : PassesOwn (model P wd) (cxOf (L2.CX P wd) P wd K mg base [("_law_cell" : PySem.Str), ("_law_turn" : PySem.Str), ("_law_wide" : PySem.Str), ("_law_high" : PySem.Str), ("_law_inner" : PySem.Str), ("_law_rank" : PySem.Str), ("_law_speeds" : PySem.Str), ("_law_sides" : PySem.Str), ("_law_x" : PySem.Str), ("_law_y" : PySem.Str)] "_law_part" (defScope s_L_part) f cdv A outer s H E).A (cxOf (L2.CX P wd) P wd K mg base [("_law_cell" : PySem.Str), ("_law_turn" : PySem.Str), ("_law_wide" : PySem.Str), ("_law_high" : PySem.Str), ("_law_inner" : PySem.Str), ("_law_rank" : PySem.Str), ("_law_speeds" : PySem.Str), ("_law_sides" : PySem.Str), ("_law_x" : PySem.Str), ("_law_y" : PySem.Str)] "_law_part" (defScope s_L_part) f cdv A outer s H E).env (cxOf (L2.CX P wd) P wd K mg base [("_law_cell" : PySem.Str), ("_law_turn" : PySem.Str), ("_law_wide" : PySem.Str), ("_law_high" : PySem.Str), ("_law_inner" : PySem.Str), ("_law_rank" : PySem.Str), ("_law_speeds" : PySem.Str), ("_law_sides" : PySem.Str), ("_law_x" : PySem.Str), ("_law_y" : PySem.Str)] "_law_part" (defScope s_L_part) f cdv A outer s H E).xe := passes_of rfl
  exact (sb_cons (ss_set (i := 5) sc_L_part.nd rfl (Or.inl rfl) (se_bin ops_sub (se_fr (se_call c_L_pick (hr.mono (by decide)) tk (sa_cons (se_var 0) (sa_cons (se_var 1) (sa_cons se_int sa_nil))))) se_int))
    (sb_cons (ss_set (i := 6) sc_L_part.nd rfl (Or.inl rfl) (se_tup (sa_cons (se_bin ops_sub (se_fr (se_call c_L_pick (hr.mono (by decide)) tk (sa_cons (se_var 0) (sa_cons (se_bin ops_add (se_var 1) se_int) (sa_cons se_int sa_nil))))) se_int) (sa_cons (se_bin ops_sub (se_fr (se_call c_L_pick (hr.mono (by decide)) tk (sa_cons (se_var 0) (sa_cons (se_bin ops_add (se_var 1) se_int) (sa_cons se_int sa_nil))))) se_int) sa_nil))))
    (sb_cons (ss_if (st_cmp (ops_eq hr.units) (se_fr (se_call c_L_pick (hr.mono (by decide)) tk (sa_cons (se_var 0) (sa_cons (se_bin ops_add (se_var 1) se_int) (sa_cons se_int sa_nil))))) se_int) (sb_cons (ss_set (i := 5) sc_L_part.nd rfl (Or.inl rfl) (se_ix (se_fr (se_lst (sa_cons (se_bin ops_pow se_int se_int) (sa_cons (se_un uns_neg (se_bin ops_pow se_int se_int)) sa_nil)))) (se_call c_L_pick (hr.mono (by decide)) tk (sa_cons (se_var 0) (sa_cons (se_bin ops_add (se_var 1) se_int) (sa_cons se_int sa_nil))))))
    (sb_one (ss_set (i := 6) sc_L_part.nd rfl (Or.inl rfl) (se_tup (sa_cons (se_bin ops_sub (se_bin ops_pow se_int se_int) (se_fr (se_call c_L_pick (hr.mono (by decide)) tk (sa_cons (se_var 0) (sa_cons (se_bin ops_add (se_var 1) se_int) (sa_cons se_int sa_nil)))))) (sa_cons (se_un uns_neg (se_bin ops_pow se_int se_int)) sa_nil)))))) sb_nil)
    (sb_cons (ss_set (i := 7) sc_L_part.nd rfl (Or.inl rfl) (se_call c_L_size (hr.mono (by decide)) tk (sa_cons (se_var 4) sa_nil)))
    (sb_cons (ss_if (SW.st (sw_or (st_cmp (ops_eq hr.units) (se_fr (se_call c_L_pick (hr.mono (by decide)) tk (sa_cons (se_var 0) (sa_cons (se_bin ops_add (se_var 1) se_int) (sa_cons se_int sa_nil))))) se_int) (sw_or (st_cmp ops_gt (se_ixV 7 se_int) (se_var 2)) (sw_or1 (st_cmp ops_gt (se_ixV 7 se_int) (se_var 3)))))) (sb_one (ss_ret (se_tup (sa_cons (se_var 5) (sa_cons (se_fr (se_call c_L_place (hr.mono (by decide)) tk (sa_cons (se_var 0) (sa_cons (se_bin ops_add (se_var 1) se_int) sa_nil)))) (sa_cons (se_fr (se_call c_L_place (hr.mono (by decide)) tk (sa_cons (se_var 0) (sa_cons (se_bin ops_add (se_var 1) se_int) sa_nil)))) (sa_cons se_int (sa_cons se_int (sa_cons (se_var 4) sa_nil))))))))) sb_nil)
    (sb_cons (ss_set (i := 8) sc_L_part.nd rfl (Or.inl rfl) (se_call c_L_pick (hr.mono (by decide)) tk (sa_cons (se_var 0) (sa_cons (se_bin ops_add (se_var 1) se_int) (sa_cons (se_bin ops_add (se_bin ops_sub (se_var 2) (se_ixV 7 se_int)) se_int) sa_nil)))))
    (sb_cons (ss_set (i := 9) sc_L_part.nd rfl (Or.inl rfl) (se_call c_L_pick (hr.mono (by decide)) tk (sa_cons (se_var 0) (sa_cons (se_bin ops_add (se_var 1) se_int) (sa_cons (se_bin ops_add (se_bin ops_sub (se_var 3) (se_ixV 7 se_int)) se_int) sa_nil)))))
    (sb_one (ss_ret (se_bin ops_add (se_fr (se_bin ops_add (se_tup (sa_cons (se_var 5) (sa_cons (se_var 8) (sa_cons (se_var 9) sa_nil)))) (se_var 6))) (se_tup (sa_cons (se_var 4) sa_nil))))))))))))
theorem snd_L_scene {n : Nat} {F_L_scene : FnT} (B : Bi mg) (BX : Bx P wd K mg ca) (c_L_cell_at : Cal P wd K mg base ca 1 "_law_cell_at" [] F_L_cell_at) (c_L_part : Cal P wd K mg base ca 17 "_law_part" [] F_L_part) (c_L_pic_by : Cal P wd K mg base ca 2 "_law_pic_by" [] F_L_pic_by) (c_L_pick : Cal P wd K mg base ca 1 "_law_pick" [] F_L_pick) (c_L_place : Cal P wd K mg base ca 2 "_law_place" [] F_L_place) (c_L_scene : Cal P wd K mg base ca (n + 17) "_law_scene" [] F_L_scene) {cdv : Value} {A : Around} {outer : List Env} {s : Shared} {H : Hp} {E : XK} {f : Addr} (hr : RoomG (n + 17) (A.deeper (envOfC "_law_scene" (defScope s_L_scene) s.heap.objs.size f cdv))) :
    SB (cxOf (L2.CX P wd) P wd K mg base [("_law_script" : PySem.Str), ("_law_k" : PySem.Str), ("_law_deep" : PySem.Str), ("_law_cell" : PySem.Str), ("_law_way" : PySem.Str), ("_law_inner" : PySem.Str), ("_law_behind" : PySem.Str), ("_law_wide" : PySem.Str), ("_law_high" : PySem.Str), ("_law_parts" : PySem.Str), ("_law_j" : PySem.Str)] "_law_scene" (defScope s_L_scene) f cdv A outer s H E) ca (fun cls d _ H => E cls d H) [] (defBody s_L_scene) (den_L_scene F_L_scene) := by
  have tk : Takes (cxOf (L2.CX P wd) P wd K mg base [("_law_script" : PySem.Str), ("_law_k" : PySem.Str), ("_law_deep" : PySem.Str), ("_law_cell" : PySem.Str), ("_law_way" : PySem.Str), ("_law_inner" : PySem.Str), ("_law_behind" : PySem.Str), ("_law_wide" : PySem.Str), ("_law_high" : PySem.Str), ("_law_parts" : PySem.Str), ("_law_j" : PySem.Str)] "_law_scene" (defScope s_L_scene) f cdv A outer s H E) (fun cls d _ H => E cls d H) := takes_of rfl rfl rfl rfl
  have hpo : PassesOwn (model P wd) (cxOf (L2.CX P wd) P wd K mg base [("_law_script" : PySem.Str), ("_law_k" : PySem.Str), ("_law_deep" : PySem.Str), ("_law_cell" : PySem.Str), ("_law_way" : PySem.Str), ("_law_inner" : PySem.Str), ("_law_behind" : PySem.Str), ("_law_wide" : PySem.Str), ("_law_high" : PySem.Str), ("_law_parts" : PySem.Str), ("_law_j" : PySem.Str)] "_law_scene" (defScope s_L_scene) f cdv A outer s H E).A (cxOf (L2.CX P wd) P wd K mg base [("_law_script" : PySem.Str), ("_law_k" : PySem.Str), ("_law_deep" : PySem.Str), ("_law_cell" : PySem.Str), ("_law_way" : PySem.Str), ("_law_inner" : PySem.Str), ("_law_behind" : PySem.Str), ("_law_wide" : PySem.Str), ("_law_high" : PySem.Str), ("_law_parts" : PySem.Str), ("_law_j" : PySem.Str)] "_law_scene" (defScope s_L_scene) f cdv A outer s H E).env (cxOf (L2.CX P wd) P wd K mg base [("_law_script" : PySem.Str), ("_law_k" : PySem.Str), ("_law_deep" : PySem.Str), ("_law_cell" : PySem.Str), ("_law_way" : PySem.Str), ("_law_inner" : PySem.Str), ("_law_behind" : PySem.Str), ("_law_wide" : PySem.Str), ("_law_high" : PySem.Str), ("_law_parts" : PySem.Str), ("_law_j" : PySem.Str)] "_law_scene" (defScope s_L_scene) f cdv A outer s H E).xe := passes_of rfl
  exact (sb_cons (ss_set (i := 3) sc_L_scene.nd rfl (Or.inl rfl) (se_call c_L_cell_at (hr.mono (by omega)) tk (sa_cons (se_var 0) (sa_cons (se_var 1) sa_nil))))
    (sb_cons (ss_set (i := 4) sc_L_scene.nd rfl (Or.inl rfl) (se_call c_L_pick (hr.mono (by omega)) tk (sa_cons (se_var 3) (sa_cons se_int (sa_cons se_int sa_nil)))))
    (sb_cons (ss_if (SW.st (sw_or (st_cmp (ops_eq hr.units) (se_var 2) se_int) (sw_or (st_cmp ops_lt (se_var 4) se_int) (sw_or1 (st_cmp ops_gt (se_var 1) se_int))))) (sb_one (ss_ret (se_tup (sa_cons (se_tup (sa_cons se_str (sa_cons (se_fr (se_call c_L_pic_by (hr.mono (by omega)) tk (sa_cons (se_var 3) sa_nil))) sa_nil))) (sa_cons (se_bin ops_add (se_var 1) se_int) sa_nil))))) sb_nil)
    (sb_cons (ss_if (st_cmp ops_lt (se_var 4) se_int) (sb_cons (ss_asg (ch := [5, 6]) (se_fr (se_call c_L_scene hr tk (sa_cons (se_var 0) (sa_cons (se_bin ops_add (se_var 1) se_int) (sa_cons (se_bin ops_sub (se_var 2) se_int) sa_nil))))) (sg_tup rfl (sgs_cons (sg_name (i := 5) sc_L_scene.nd rfl (Or.inl rfl)) (sgs_cons (sg_name (i := 6) sc_L_scene.nd rfl (Or.inl rfl)) (sgs_nil (ch := [5, 6])) (by decide)) (by decide)) (dgCons_len (dgCons_len dgNil_len))))
    (sb_one (ss_ret (se_tup (sa_cons (se_tup (sa_cons se_str (sa_cons (se_fr (se_call c_L_pick (hr.mono (by omega)) tk (sa_cons (se_var 3) (sa_cons se_int (sa_cons se_int sa_nil))))) (sa_cons (se_var 5) sa_nil)))) (sa_cons (se_var 6) sa_nil)))))) sb_nil)
    (sb_cons (ss_set (i := 7) sc_L_scene.nd rfl (Or.inl rfl) (se_bin ops_add se_int (se_fr (se_call c_L_pick (hr.mono (by omega)) tk (sa_cons (se_var 3) (sa_cons se_int (sa_cons se_int sa_nil)))))))
    (sb_cons (ss_set (i := 8) sc_L_scene.nd rfl (Or.inl rfl) (se_bin ops_add se_int (se_fr (se_call c_L_pick (hr.mono (by omega)) tk (sa_cons (se_var 3) (sa_cons se_int (sa_cons se_int sa_nil)))))))
    (sb_cons (ss_if (st_cmp (ops_eq hr.units) (se_var 4) se_int) (sb_cons (ss_asg (ch := [5, 6]) (se_fr (se_call c_L_scene hr tk (sa_cons (se_var 0) (sa_cons (se_bin ops_add (se_var 1) se_int) (sa_cons (se_bin ops_sub (se_var 2) se_int) sa_nil))))) (sg_tup rfl (sgs_cons (sg_name (i := 5) sc_L_scene.nd rfl (Or.inl rfl)) (sgs_cons (sg_name (i := 6) sc_L_scene.nd rfl (Or.inl rfl)) (sgs_nil (ch := [5, 6])) (by decide)) (by decide)) (dgCons_len (dgCons_len dgNil_len))))
    (sb_one (ss_ret (se_tup (sa_cons (se_tup (sa_cons se_str (sa_cons (se_fr (se_call c_L_place (hr.mono (by omega)) tk (sa_cons (se_var 3) (sa_cons se_int sa_nil)))) (sa_cons (se_fr (se_call c_L_place (hr.mono (by omega)) tk (sa_cons (se_var 3) (sa_cons se_int sa_nil)))) (sa_cons (se_var 7) (sa_cons (se_var 8) (sa_cons (se_var 5) sa_nil))))))) (sa_cons (se_var 6) sa_nil)))))) sb_nil)
    (sb_cons (ss_set (i := 9) sc_L_scene.nd rfl (Or.inl rfl) (se_lst sa_nil))
    (sb_cons (ss_set (i := 6) sc_L_scene.nd rfl (Or.inl rfl) (se_bin ops_add (se_var 1) se_int))
    (sb_cons (ss_for (ch := [10]) hpo rfl (si_range1 B.range (sa_cons (se_fr (se_call c_L_pick (hr.mono (by omega)) tk (sa_cons (se_var 3) (sa_cons se_int (sa_cons se_int sa_nil))))) sa_nil)) (sg_name (i := 10) sc_L_scene.nd rfl (Or.inl rfl)) (sb_cons (ss_asg (ch := [5, 6]) (se_fr (se_call c_L_scene hr tk (sa_cons (se_var 0) (sa_cons (se_var 6) (sa_cons (se_bin ops_sub (se_var 2) se_int) sa_nil))))) (sg_tup rfl (sgs_cons (sg_name (i := 5) sc_L_scene.nd rfl (Or.inl rfl)) (sgs_cons (sg_name (i := 6) sc_L_scene.nd rfl (Or.inl rfl)) (sgs_nil (ch := [5, 6])) (by decide)) (by decide)) (dgCons_len (dgCons_len dgNil_len))))
    (sb_one (ss_expr (se_append 9 (se_call c_L_part (hr.mono (by omega)) tk (sa_cons (se_var 3) (sa_cons (se_bin ops_add se_int (se_fr (se_bin ops_mul se_int (se_var 10)))) (sa_cons (se_var 7) (sa_cons (se_var 8) (sa_cons (se_var 5) sa_nil)))))))))))
    (sb_one (ss_ret (se_tup (sa_cons (se_tup (sa_cons se_str (sa_cons (se_var 7) (sa_cons (se_var 8) (sa_cons (se_bt cs_tuple B.tuple_ PyProof.Rows.boot_tuple (sa_cons (se_var 9) sa_nil)) sa_nil))))) (sa_cons (se_var 6) sa_nil)))))))))))))))
theorem snd_L_bent {n : Nat} {F_L_bent : FnT} (B : Bi mg) (BX : Bx P wd K mg ca) (c_L_pick : Cal P wd K mg base ca 1 "_law_pick" [] F_L_pick) (c_L_size : Cal P wd K mg base ca 16 "_law_size" [] F_L_size) (c_L_bent : Cal P wd K mg base ca (n + 16) "_law_bent" [] F_L_bent) {cdv : Value} {A : Around} {outer : List Env} {s : Shared} {H : Hp} {E : XK} {f : Addr} (hr : RoomG (n + 16) (A.deeper (envOfC "_law_bent" (defScope s_L_bent) s.heap.objs.size f cdv))) :
    SB (cxOf (L2.CX P wd) P wd K mg base [("_law_scene_here" : PySem.Str), ("_law_cell" : PySem.Str), ("_law_parts" : PySem.Str), ("_law_number" : PySem.Str), ("_law_part_here" : PySem.Str), ("_law_one" : PySem.Str), ("_law_inner" : PySem.Str), ("_law_sides" : PySem.Str), ("_law_places" : PySem.Str)] "_law_bent" (defScope s_L_bent) f cdv A outer s H E) ca (fun cls d _ H => E cls d H) [] (defBody s_L_bent) (den_L_bent F_L_bent) := by
  have tk : Takes (cxOf (L2.CX P wd) P wd K mg base [("_law_scene_here" : PySem.Str), ("_law_cell" : PySem.Str), ("_law_parts" : PySem.Str), ("_law_number" : PySem.Str), ("_law_part_here" : PySem.Str), ("_law_one" : PySem.Str), ("_law_inner" : PySem.Str), ("_law_sides" : PySem.Str), ("_law_places" : PySem.Str)] "_law_bent" (defScope s_L_bent) f cdv A outer s H E) (fun cls d _ H => E cls d H) := takes_of rfl rfl rfl rfl
  have hpo : PassesOwn (model P wd) (cxOf (L2.CX P wd) P wd K mg base [("_law_scene_here" : PySem.Str), ("_law_cell" : PySem.Str), ("_law_parts" : PySem.Str), ("_law_number" : PySem.Str), ("_law_part_here" : PySem.Str), ("_law_one" : PySem.Str), ("_law_inner" : PySem.Str), ("_law_sides" : PySem.Str), ("_law_places" : PySem.Str)] "_law_bent" (defScope s_L_bent) f cdv A outer s H E).A (cxOf (L2.CX P wd) P wd K mg base [("_law_scene_here" : PySem.Str), ("_law_cell" : PySem.Str), ("_law_parts" : PySem.Str), ("_law_number" : PySem.Str), ("_law_part_here" : PySem.Str), ("_law_one" : PySem.Str), ("_law_inner" : PySem.Str), ("_law_sides" : PySem.Str), ("_law_places" : PySem.Str)] "_law_bent" (defScope s_L_bent) f cdv A outer s H E).env (cxOf (L2.CX P wd) P wd K mg base [("_law_scene_here" : PySem.Str), ("_law_cell" : PySem.Str), ("_law_parts" : PySem.Str), ("_law_number" : PySem.Str), ("_law_part_here" : PySem.Str), ("_law_one" : PySem.Str), ("_law_inner" : PySem.Str), ("_law_sides" : PySem.Str), ("_law_places" : PySem.Str)] "_law_bent" (defScope s_L_bent) f cdv A outer s H E).xe := passes_of rfl
  exact (sb_cons (ss_if (st_cmp (ops_eq hr.units) (se_ixV 0 se_int) se_str) (sb_one (ss_ret (se_move 0))) sb_nil)
    (sb_cons (ss_if (st_cmp (ops_ne hr.units) (se_ixV 0 se_int) se_str) (sb_one (ss_ret (se_bin ops_add (se_fr (se_slice (se_var 0) so_none (so_some (se_bin ops_sub (se_lenV 0 B.len) se_int)))) (se_tup (sa_cons (se_fr (se_call c_L_bent hr tk (sa_cons (se_ixV 0 (se_bin ops_sub (se_lenV 0 B.len) se_int)) (sa_cons (se_bin ops_add (se_fr (se_bin ops_mul (se_var 1) se_int)) se_int) sa_nil)))) sa_nil))))) sb_nil)
    (sb_cons (ss_set (i := 2) sc_L_bent.nd rfl (Or.inl rfl) (se_lst sa_nil))
    (sb_cons (ss_for (ch := [3, 4]) hpo rfl (si_enumT B.enumerate (sa_cons (se_ixV 0 se_int) sa_nil)) (sg_tup rfl (sgs_cons (sg_name (i := 3) sc_L_bent.nd rfl (Or.inl rfl)) (sgs_cons (sg_name (i := 4) sc_L_bent.nd rfl (Or.inl rfl)) (sgs_nil (ch := [3, 4])) (by decide)) (by decide)) (dgCons_len (dgCons_len dgNil_len))) (sb_cons (ss_set (i := 5) sc_L_bent.nd rfl (Or.inl rfl) (se_bin ops_add (se_fr (se_bin ops_add (se_fr (se_bin ops_mul (se_var 1) se_int)) (se_fr (se_bin ops_mul se_int (se_var 3))))) se_int))
    (sb_cons (ss_set (i := 6) sc_L_bent.nd rfl (Or.inl rfl) (se_call c_L_bent hr tk (sa_cons (se_ixV 4 se_int) (sa_cons (se_var 5) sa_nil))))
    (sb_cons (ss_set (i := 7) sc_L_bent.nd rfl (Or.inl rfl) (se_call c_L_size (hr.mono (by omega)) tk (sa_cons (se_var 6) sa_nil)))
    (sb_cons (ss_set (i := 8) sc_L_bent.nd rfl (Or.inl rfl) (se_lst (sa_cons (se_tup (sa_cons (se_un uns_neg se_int) (sa_cons se_int sa_nil))) (sa_cons (se_tup (sa_cons (se_bin ops_add (se_bin ops_sub (se_ixV 0 se_int) (se_ixV 7 se_int)) se_int) (sa_cons se_int sa_nil))) (sa_cons (se_tup (sa_cons se_int (sa_cons (se_un uns_neg (se_bin ops_pow se_int se_int)) sa_nil))) (sa_cons (se_tup (sa_cons se_int (sa_cons (se_bin ops_pow se_int se_int) sa_nil))) sa_nil))))))
    (sb_one (ss_if (st_cmp (ops_eq hr.units) (se_fr (se_call c_L_pick (hr.mono (by omega)) tk (sa_cons (se_var 5) (sa_cons se_int (sa_cons se_int sa_nil))))) se_int) (sb_one (ss_expr (se_append 2 (se_bin ops_add (se_bin ops_add (se_tup (sa_cons (se_ixV 4 se_int) sa_nil)) (se_ixV 8 (se_call c_L_pick (hr.mono (by omega)) tk (sa_cons (se_var 5) (sa_cons se_int (sa_cons se_int sa_nil)))))) (se_tup (sa_cons se_int (sa_cons se_int (sa_cons (se_var 6) sa_nil)))))))) (sb_one (ss_expr (se_append 2 (se_bin ops_add (se_fr (se_slice (se_var 4) so_none (so_some se_int))) (se_tup (sa_cons (se_var 6) sa_nil)))))))))))))
    (sb_one (ss_ret (se_bin ops_add (se_fr (se_slice (se_var 0) so_none (so_some se_int))) (se_tup (sa_cons (se_bt cs_tuple B.tuple_ PyProof.Rows.boot_tuple (sa_cons (se_var 2) sa_nil)) sa_nil)))))))))
theorem snd_L_drawing (B : Bi mg) (BX : Bx P wd K mg ca)   {cdv : Value} {A : Around} {outer : List Env} {s : Shared} {H : Hp} {E : XK} {f : Addr} (hr : RoomG 0 (A.deeper (envOfC "_law_drawing" (defScope s_L_drawing) s.heap.objs.size f cdv))) :
    SB (cxOf (L2.CX P wd) P wd K mg base [("_law_pic" : PySem.Str), ("_law_signs" : PySem.Str), ("_law_texts" : PySem.Str), ("_law_paint" : PySem.Str), ("_law_mask" : PySem.Str), ("_law_row" : PySem.Str), ("_law_x" : PySem.Str), ("_law_one" : PySem.Str)] "_law_drawing" (defScope s_L_drawing) f cdv A outer s H E) ca (fun cls d _ H => E cls d H) [] (defBody s_L_drawing) (den_L_drawing) := by
  have tk : Takes (cxOf (L2.CX P wd) P wd K mg base [("_law_pic" : PySem.Str), ("_law_signs" : PySem.Str), ("_law_texts" : PySem.Str), ("_law_paint" : PySem.Str), ("_law_mask" : PySem.Str), ("_law_row" : PySem.Str), ("_law_x" : PySem.Str), ("_law_one" : PySem.Str)] "_law_drawing" (defScope s_L_drawing) f cdv A outer s H E) (fun cls d _ H => E cls d H) := takes_of rfl rfl rfl rfl
  have hpo : PassesOwn (model P wd) (cxOf (L2.CX P wd) P wd K mg base [("_law_pic" : PySem.Str), ("_law_signs" : PySem.Str), ("_law_texts" : PySem.Str), ("_law_paint" : PySem.Str), ("_law_mask" : PySem.Str), ("_law_row" : PySem.Str), ("_law_x" : PySem.Str), ("_law_one" : PySem.Str)] "_law_drawing" (defScope s_L_drawing) f cdv A outer s H E).A (cxOf (L2.CX P wd) P wd K mg base [("_law_pic" : PySem.Str), ("_law_signs" : PySem.Str), ("_law_texts" : PySem.Str), ("_law_paint" : PySem.Str), ("_law_mask" : PySem.Str), ("_law_row" : PySem.Str), ("_law_x" : PySem.Str), ("_law_one" : PySem.Str)] "_law_drawing" (defScope s_L_drawing) f cdv A outer s H E).env (cxOf (L2.CX P wd) P wd K mg base [("_law_pic" : PySem.Str), ("_law_signs" : PySem.Str), ("_law_texts" : PySem.Str), ("_law_paint" : PySem.Str), ("_law_mask" : PySem.Str), ("_law_row" : PySem.Str), ("_law_x" : PySem.Str), ("_law_one" : PySem.Str)] "_law_drawing" (defScope s_L_drawing) f cdv A outer s H E).xe := passes_of rfl
  exact (sb_cons (ss_set (i := 1) sc_L_drawing.nd rfl (Or.inr rfl) se_str)
    (sb_cons (ss_set (i := 2) sc_L_drawing.nd rfl (Or.inl rfl) (se_lst sa_nil))
    (sb_cons (ss_for (ch := [3, 4]) hpo rfl (si_zipT B.zip (sa_cons (se_ixV 0 se_int) (sa_cons (se_ixV 0 se_int) sa_nil))) (sg_tup rfl (sgs_cons (sg_name (i := 3) sc_L_drawing.nd rfl (Or.inr rfl)) (sgs_cons (sg_name (i := 4) sc_L_drawing.nd rfl (Or.inr rfl)) (sgs_nil (ch := [3, 4])) (by decide)) (by decide)) (dgCons_len (dgCons_len dgNil_len))) (sb_cons (ss_setLc (i := 5) rfl (si_range1 B.range (sa_cons (se_ixV 0 se_int) sa_nil)) (Blk.mk (own := [(("_law_x" : PySem.Str), 6)]) (ch := [6]) (blkOk_by (N := [("_law_pic" : PySem.Str), ("_law_signs" : PySem.Str), ("_law_texts" : PySem.Str), ("_law_paint" : PySem.Str), ("_law_mask" : PySem.Str), ("_law_row" : PySem.Str), ("_law_x" : PySem.Str), ("_law_one" : PySem.Str)]) (sc := defScope s_L_drawing) (by decide +kernel)) sc_L_drawing.nd (fun _ _ _ _ _ => (sg_name (i := 6) sc_L_drawing.nd rfl (Or.inl rfl))) (fun _ _ _ _ _ => sts_nil) (fun _ _ _ _ _ => (se_if (st_cmp (ops_eq hr.units) (se_bin ops_and (se_bin ops_shr (se_var 4) (se_var 6)) se_int) se_int) (se_bin ops_and (se_bin ops_shr (se_var 3) (se_fr (se_bin ops_mul se_int (se_var 6)))) se_int) se_non)) (by decide)))
    (sb_one (ss_expr (se_append 2 (se_t1 mtt_join se_str (se_fr (se_lc rfl (si_val (se_var 5)) (Blk.mk (own := [(("_law_one" : PySem.Str), 7)]) (ch := [7]) (blkOk_by (N := [("_law_pic" : PySem.Str), ("_law_signs" : PySem.Str), ("_law_texts" : PySem.Str), ("_law_paint" : PySem.Str), ("_law_mask" : PySem.Str), ("_law_row" : PySem.Str), ("_law_x" : PySem.Str), ("_law_one" : PySem.Str)]) (sc := defScope s_L_drawing) (by decide +kernel)) sc_L_drawing.nd (fun _ _ _ _ _ => (sg_name (i := 7) sc_L_drawing.nd rfl (Or.inl rfl))) (fun _ _ _ _ _ => sts_nil) (fun _ _ _ _ _ => (se_if (st_cmp ops_is (se_var 7) se_non) se_str (se_ixV 1 (se_var 7)))) (by decide))))))))))
    (sb_one (ss_ret (se_t1 mtt_join se_str (se_var 2)))))))
theorem snd_L_words {n : Nat} {F_L_words : FnT} (B : Bi mg) (BX : Bx P wd K mg ca) (c_L_drawing : Cal P wd K mg base ca 1 "_law_drawing" [] F_L_drawing) (c_L_words : Cal P wd K mg base ca (n + 1) "_law_words" [] F_L_words) {cdv : Value} {A : Around} {outer : List Env} {s : Shared} {H : Hp} {E : XK} {f : Addr} (hr : RoomG (n + 1) (A.deeper (envOfC "_law_words" (defScope s_L_words) s.heap.objs.size f cdv))) :
    SB (cxOf (L2.CX P wd) P wd K mg base [("_law_scene_here" : PySem.Str), ("_law_numbers" : PySem.Str), ("_law_one" : PySem.Str), ("_law_words_here" : PySem.Str), ("_law_part_here" : PySem.Str)] "_law_words" (defScope s_L_words) f cdv A outer s H E) ca (fun cls d _ H => E cls d H) [] (defBody s_L_words) (den_L_words F_L_words) := by
  have tk : Takes (cxOf (L2.CX P wd) P wd K mg base [("_law_scene_here" : PySem.Str), ("_law_numbers" : PySem.Str), ("_law_one" : PySem.Str), ("_law_words_here" : PySem.Str), ("_law_part_here" : PySem.Str)] "_law_words" (defScope s_L_words) f cdv A outer s H E) (fun cls d _ H => E cls d H) := takes_of rfl rfl rfl rfl
  have hpo : PassesOwn (model P wd) (cxOf (L2.CX P wd) P wd K mg base [("_law_scene_here" : PySem.Str), ("_law_numbers" : PySem.Str), ("_law_one" : PySem.Str), ("_law_words_here" : PySem.Str), ("_law_part_here" : PySem.Str)] "_law_words" (defScope s_L_words) f cdv A outer s H E).A (cxOf (L2.CX P wd) P wd K mg base [("_law_scene_here" : PySem.Str), ("_law_numbers" : PySem.Str), ("_law_one" : PySem.Str), ("_law_words_here" : PySem.Str), ("_law_part_here" : PySem.Str)] "_law_words" (defScope s_L_words) f cdv A outer s H E).env (cxOf (L2.CX P wd) P wd K mg base [("_law_scene_here" : PySem.Str), ("_law_numbers" : PySem.Str), ("_law_one" : PySem.Str), ("_law_words_here" : PySem.Str), ("_law_part_here" : PySem.Str)] "_law_words" (defScope s_L_words) f cdv A outer s H E).xe := passes_of rfl
  exact (sb_cons (ss_if (st_cmp (ops_eq hr.units) (se_ixV 0 se_int) se_str) (sb_one (ss_ret (se_lst (sa_cons se_str (sa_cons se_str (sa_cons (se_fr (se_call c_L_drawing (hr.mono (by omega)) tk (sa_cons (se_ixV 0 se_int) sa_nil))) (sa_cons se_str sa_nil))))))) sb_nil)
    (sb_cons (ss_if (st_cmp (ops_ne hr.units) (se_ixV 0 se_int) se_str) (sb_cons (ss_setLc (i := 1) rfl (si_val (se_fr (se_slice (se_var 0) (so_some se_int) (so_some (se_bin ops_sub (se_lenV 0 B.len) se_int))))) (Blk.mk (own := [(("_law_one" : PySem.Str), 2)]) (ch := [2]) (blkOk_by (N := [("_law_scene_here" : PySem.Str), ("_law_numbers" : PySem.Str), ("_law_one" : PySem.Str), ("_law_words_here" : PySem.Str), ("_law_part_here" : PySem.Str)]) (sc := defScope s_L_words) (by decide +kernel)) sc_L_words.nd (fun _ _ _ _ _ => (sg_name (i := 2) sc_L_words.nd rfl (Or.inl rfl))) (fun _ _ _ _ _ => sts_nil) (fun _ _ _ _ _ => (se_bt cs_str B.str_ PyProof.Rows.boot_str (sa_cons (se_var 2) sa_nil))) (by decide)))
    (sb_one (ss_ret (se_bin ops_add (se_fr (se_bin ops_add (se_fr (se_bin ops_add (se_fr (se_lst (sa_cons se_str (sa_cons (se_ixV 0 se_int) sa_nil)))) (se_var 1))) (se_fr (se_call c_L_words hr tk (sa_cons (se_ixV 0 (se_bin ops_sub (se_lenV 0 B.len) se_int)) sa_nil))))) (se_fr (se_lst (sa_cons se_str sa_nil))))))) sb_nil)
    (sb_cons (ss_set (i := 3) sc_L_words.nd rfl (Or.inl rfl) (se_lst (sa_cons se_str (sa_cons se_str (sa_cons (se_bt cs_str B.str_ PyProof.Rows.boot_str (sa_cons (se_ixV 0 se_int) sa_nil)) (sa_cons (se_bt cs_str B.str_ PyProof.Rows.boot_str (sa_cons (se_ixV 0 se_int) sa_nil)) sa_nil))))))
    (sb_cons (ss_for (ch := [4]) hpo rfl (si_val (se_ixV 0 se_int)) (sg_name (i := 4) sc_L_words.nd rfl (Or.inl rfl)) (sb_one (ss_set (i := 3) sc_L_words.nd rfl (Or.inl rfl) (se_bin ops_add (se_fr (se_bin ops_add (se_fr (se_bin ops_add (se_fr (se_bin ops_add (se_var 3) (se_fr (se_lst (sa_cons se_str sa_nil))))) (se_fr (se_lc rfl (si_val (se_fr (se_slice (se_var 4) so_none (so_some se_int)))) (Blk.mk (own := [(("_law_one" : PySem.Str), 2)]) (ch := [2]) (blkOk_by (N := [("_law_scene_here" : PySem.Str), ("_law_numbers" : PySem.Str), ("_law_one" : PySem.Str), ("_law_words_here" : PySem.Str), ("_law_part_here" : PySem.Str)]) (sc := defScope s_L_words) (by decide +kernel)) sc_L_words.nd (fun _ _ _ _ _ => (sg_name (i := 2) sc_L_words.nd rfl (Or.inl rfl))) (fun _ _ _ _ _ => sts_nil) (fun _ _ _ _ _ => (se_bt cs_str B.str_ PyProof.Rows.boot_str (sa_cons (se_var 2) sa_nil))) (by decide)))))) (se_fr (se_call c_L_words hr tk (sa_cons (se_ixV 4 se_int) sa_nil))))) (se_fr (se_lst (sa_cons se_str sa_nil)))))))
    (sb_one (ss_ret (se_bin ops_add (se_var 3) (se_fr (se_lst (sa_cons se_str sa_nil))))))))))
theorem snd_L_great (B : Bi mg) (BX : Bx P wd K mg ca) (c_L_part : Cal P wd K mg base ca 17 "_law_part" [] F_L_part) (c_L_pic_by : Cal P wd K mg base ca 2 "_law_pic_by" [] F_L_pic_by) (c_L_pick : Cal P wd K mg base ca 1 "_law_pick" [] F_L_pick)  {cdv : Value} {A : Around} {outer : List Env} {s : Shared} {H : Hp} {E : XK} {f : Addr} (hr : RoomG 17 (A.deeper (envOfC "_law_great" (defScope s_L_great) s.heap.objs.size f cdv))) :
    SB (cxOf (L2.CX P wd) P wd K mg base [("_law_cell" : PySem.Str), ("_law_scene_here" : PySem.Str), ("_law_way" : PySem.Str), ("_law_k" : PySem.Str), ("_law_one" : PySem.Str), ("_law_parts" : PySem.Str)] "_law_great" (defScope s_L_great) f cdv A outer s H E) ca (fun cls d _ H => E cls d H) [] (defBody s_L_great) (den_L_great) := by
  have tk : Takes (cxOf (L2.CX P wd) P wd K mg base [("_law_cell" : PySem.Str), ("_law_scene_here" : PySem.Str), ("_law_way" : PySem.Str), ("_law_k" : PySem.Str), ("_law_one" : PySem.Str), ("_law_parts" : PySem.Str)] "_law_great" (defScope s_L_great) f cdv A outer s H E) (fun cls d _ H => E cls d H) := takes_of rfl rfl rfl rfl
  have hpo : PassesOwn (model P wd) (cxOf (L2.CX P wd) P wd K mg base [("_law_cell" : PySem.Str), ("_law_scene_here" : PySem.Str), ("_law_way" : PySem.Str), ("_law_k" : PySem.Str), ("_law_one" : PySem.Str), ("_law_parts" : PySem.Str)] "_law_great" (defScope s_L_great) f cdv A outer s H E).A (cxOf (L2.CX P wd) P wd K mg base [("_law_cell" : PySem.Str), ("_law_scene_here" : PySem.Str), ("_law_way" : PySem.Str), ("_law_k" : PySem.Str), ("_law_one" : PySem.Str), ("_law_parts" : PySem.Str)] "_law_great" (defScope s_L_great) f cdv A outer s H E).env (cxOf (L2.CX P wd) P wd K mg base [("_law_cell" : PySem.Str), ("_law_scene_here" : PySem.Str), ("_law_way" : PySem.Str), ("_law_k" : PySem.Str), ("_law_one" : PySem.Str), ("_law_parts" : PySem.Str)] "_law_great" (defScope s_L_great) f cdv A outer s H E).xe := passes_of rfl
  exact (sb_cons (ss_set (i := 2) sc_L_great.nd rfl (Or.inl rfl) (se_call c_L_pick (hr.mono (by decide)) tk (sa_cons (se_var 0) (sa_cons se_int (sa_cons se_int sa_nil)))))
    (sb_cons (ss_if (st_cmp (ops_eq hr.units) (se_var 2) se_int) (sb_cons (ss_set (i := 1) sc_L_great.nd rfl (Or.inl rfl) (se_tup (sa_cons se_str (sa_cons (se_fr (se_call c_L_pic_by (hr.mono (by decide)) tk (sa_cons (se_var 0) sa_nil))) sa_nil))))
    (sb_one (ss_for (ch := [3]) hpo rfl (si_range1 B.range (sa_cons se_int sa_nil)) (sg_name (i := 3) sc_L_great.nd rfl (Or.inl rfl)) (sb_one (ss_set (i := 1) sc_L_great.nd rfl (Or.inl rfl) (se_tup (sa_cons se_str (sa_cons (se_fr (se_call c_L_pick (hr.mono (by decide)) tk (sa_cons (se_var 0) (sa_cons (se_bin ops_add se_int (se_var 3)) (sa_cons se_int sa_nil))))) (sa_cons (se_var 1) sa_nil))))))))) sb_nil)
    (sb_cons (ss_if (st_cmp (ops_eq hr.units) (se_var 2) se_int) (sb_cons (ss_set (i := 4) sc_L_great.nd rfl (Or.inr rfl) (se_tup (sa_cons se_str (sa_cons (se_fr (se_call c_L_pic_by (hr.mono (by decide)) tk (sa_cons (se_var 0) sa_nil))) sa_nil))))
    (sb_cons (ss_setLc (i := 5) rfl (si_range1 B.range (sa_cons se_int sa_nil)) (Blk.mk (own := [(("_law_k" : PySem.Str), 3)]) (ch := [3]) (blkOk_by (N := [("_law_cell" : PySem.Str), ("_law_scene_here" : PySem.Str), ("_law_way" : PySem.Str), ("_law_k" : PySem.Str), ("_law_one" : PySem.Str), ("_law_parts" : PySem.Str)]) (sc := defScope s_L_great) (by decide +kernel)) sc_L_great.nd (fun _ _ _ _ _ => (sg_name (i := 3) sc_L_great.nd rfl (Or.inl rfl))) (fun _ _ _ _ _ => sts_nil) (fun _ _ _ _ _ => (se_fr (se_call c_L_part (hr.mono (by decide)) takes_WF (sa_cons (se_var 0) (sa_cons (se_bin ops_add se_int (se_fr (se_bin ops_mul se_int (se_var 3)))) (sa_cons se_int (sa_cons se_int (sa_cons (se_var 4) sa_nil)))))))) (by decide)))
    (sb_one (ss_set (i := 1) sc_L_great.nd rfl (Or.inl rfl) (se_tup (sa_cons se_str (sa_cons se_int (sa_cons se_int (sa_cons (se_bt cs_tuple B.tuple_ PyProof.Rows.boot_tuple (sa_cons (se_var 5) sa_nil)) sa_nil))))))))) sb_nil)
    (sb_one (ss_ret (se_move 1))))))
theorem snd_law (B : Bi mg) (BX : Bx P wd K mg ca) (c_L_bent : Cal P wd K mg base ca 32 "_law_bent" [] F_L_bent) (c_L_cell_at : Cal P wd K mg base ca 1 "_law_cell_at" [] F_L_cell_at) (c_L_cells : Cal P wd K mg base ca 2 "_law_cells" [] F_L_cells) (c_L_great : Cal P wd K mg base ca 18 "_law_great" [] F_L_great) (c_L_scene : Cal P wd K mg base ca 33 "_law_scene" [] F_L_scene) (c_L_words : Cal P wd K mg base ca 17 "_law_words" [] F_L_words) (c_read_scene : Cal P wd K mg base ca 35 "read_scene" [] F_read_scene) (c_scene_text : Cal P wd K mg base ca 19 "scene_text" [] F_scene_text)  {cdv : Value} {A : Around} {outer : List Env} {s : Shared} {H : Hp} {E : XK} {f : Addr} (hr : RoomG 35 (A.deeper (envOfC "law" (defScope s_law) s.heap.objs.size f cdv))) :
    SB (cxOf (L2.CX P wd) P wd K mg base [("_law_script" : PySem.Str), ("_law_cell" : PySem.Str), ("_law_scene_here" : PySem.Str), ("_law_one" : PySem.Str), ("_law_text" : PySem.Str), ("_law_found" : PySem.Str)] "law" (defScope s_law) f cdv A outer s H E) ca (fun cls d _ H => E cls d H) [] (defBody s_law) (den_law) := by
  have tk : Takes (cxOf (L2.CX P wd) P wd K mg base [("_law_script" : PySem.Str), ("_law_cell" : PySem.Str), ("_law_scene_here" : PySem.Str), ("_law_one" : PySem.Str), ("_law_text" : PySem.Str), ("_law_found" : PySem.Str)] "law" (defScope s_law) f cdv A outer s H E) (fun cls d _ H => E cls d H) := takes_of rfl rfl rfl rfl
  have hpo : PassesOwn (model P wd) (cxOf (L2.CX P wd) P wd K mg base [("_law_script" : PySem.Str), ("_law_cell" : PySem.Str), ("_law_scene_here" : PySem.Str), ("_law_one" : PySem.Str), ("_law_text" : PySem.Str), ("_law_found" : PySem.Str)] "law" (defScope s_law) f cdv A outer s H E).A (cxOf (L2.CX P wd) P wd K mg base [("_law_script" : PySem.Str), ("_law_cell" : PySem.Str), ("_law_scene_here" : PySem.Str), ("_law_one" : PySem.Str), ("_law_text" : PySem.Str), ("_law_found" : PySem.Str)] "law" (defScope s_law) f cdv A outer s H E).env (cxOf (L2.CX P wd) P wd K mg base [("_law_script" : PySem.Str), ("_law_cell" : PySem.Str), ("_law_scene_here" : PySem.Str), ("_law_one" : PySem.Str), ("_law_text" : PySem.Str), ("_law_found" : PySem.Str)] "law" (defScope s_law) f cdv A outer s H E).xe := passes_of rfl
  exact (sb_cons (ss_set (i := 1) sc_law.nd rfl (Or.inl rfl) (se_call c_L_cell_at (hr.mono (by decide)) tk (sa_cons (se_var 0) (sa_cons se_int sa_nil))))
    (sb_cons (ss_set (i := 2) sc_law.nd rfl (Or.inl rfl) (se_call c_L_great (hr.mono (by decide)) tk (sa_cons (se_var 1) (sa_cons (se_ix (se_fr (se_call c_L_scene (hr.mono (by decide)) tk (sa_cons (se_fr (se_call c_L_cells (hr.mono (by decide)) tk (sa_cons (se_var 0) (sa_cons se_int (sa_cons se_int sa_nil))))) (sa_cons se_int (sa_cons se_int sa_nil))))) se_int) sa_nil))))
    (sb_cons (ss_for (ch := [3]) hpo rfl (si_val (se_fr (se_lst (sa_cons (se_var 2) (sa_cons (se_fr (se_call c_L_bent (hr.mono (by decide)) tk (sa_cons (se_var 2) (sa_cons (se_bin ops_mod (se_var 1) se_int) sa_nil)))) (sa_cons (se_var 2) sa_nil)))))) (sg_name (i := 3) sc_law.nd rfl (Or.inl rfl)) (sb_cons (ss_set (i := 4) sc_law.nd rfl (Or.inl rfl) (se_t1 mtt_join se_str (se_fr (se_call c_L_words (hr.mono (by decide)) tk (sa_cons (se_var 3) sa_nil)))))
    (sb_cons (ss_set (i := 5) sc_law.nd rfl (Or.inl rfl) (se_call c_scene_text (hr.mono (by decide)) tk (sa_cons (se_var 3) sa_nil)))
    (sb_one (ss_if (SW.st (sw_or (st_not (st_val (se_bi cs_isi B.isinstance PyProof.Rows.boot_isinstance (sa_cons (se_var 5) (sa_cons (se_bty B.str_ PyProof.Rows.boot_str) sa_nil))))) (sw_or (st_cmp (ops_ne hr.units) (se_var 5) (se_var 4)) (sw_or1 (st_cmp (ops_ne hr.units) (se_bi (cs_reprX hr.units hr.g) B.repr_ PyProof.Rows.boot_repr (sa_cons (se_fr (se_call c_read_scene (hr.mono (by decide)) tk (sa_cons (se_var 4) sa_nil))) sa_nil)) (se_bi (cs_reprX hr.units hr.g) B.repr_ PyProof.Rows.boot_repr (sa_cons (se_var 3) sa_nil))))))) (sb_one (ss_ret se_bl)) sb_nil)))))
    (sb_one (ss_ret se_bl)))))
end
theorem all_mk {l : PySem.W.OpenLaw} {w : World} {K : PySem.W.Frag} {h : Heap} {mg : Str → Option Value} {ca : Cad} {fa : Addr} (X : K.In h) (G : h.Ns mainGlobals mg) (hfa : mg "law" = some (.ref fa))
    (z_all_ : PySem.W.nsIn K mainGlobals "all" = some none)
    (z_bool_ : PySem.W.nsIn K mainGlobals "bool" = some none)
    (z_enumerate : PySem.W.nsIn K mainGlobals "enumerate" = some none)
    (z_int_ : PySem.W.nsIn K mainGlobals "int" = some none)
    (z_isinstance : PySem.W.nsIn K mainGlobals "isinstance" = some none)
    (z_len : PySem.W.nsIn K mainGlobals "len" = some none)
    (z_list_ : PySem.W.nsIn K mainGlobals "list" = some none)
    (z_range : PySem.W.nsIn K mainGlobals "range" = some none)
    (z_repr_ : PySem.W.nsIn K mainGlobals "repr" = some none)
    (z_str_ : PySem.W.nsIn K mainGlobals "str" = some none)
    (z_tuple_ : PySem.W.nsIn K mainGlobals "tuple" = some none)
    (z_zip : PySem.W.nsIn K mainGlobals "zip" = some none)
    {t_COLOURS : Tok} (g_COLOURS : PySem.W.nsIn K mainGlobals "COLOURS" = some (some (.int 16 t_COLOURS)))
    {t_DEEP : Tok} (g_DEEP : PySem.W.nsIn K mainGlobals "DEEP" = some (some (.int 12 t_DEEP)))
    {t_FAR : Tok} (g_FAR : PySem.W.nsIn K mainGlobals "FAR" = some (some (.int 1000000000 t_FAR)))
    {t_MANY : Tok} (g_MANY : PySem.W.nsIn K mainGlobals "MANY" = some (some (.int 60 t_MANY)))
    {t_MOST : Tok} (g_MOST : PySem.W.nsIn K mainGlobals "MOST" = some (some (.int 64 t_MOST)))
    {t_SIGNS : Tok} (g_SIGNS : PySem.W.nsIn K mainGlobals "SIGNS" = some (some (.str ("0123456789abcdef" : PySem.Str) t_SIGNS)))
    {U16 : Addr} (gU16 : PySem.W.nsIn K mainGlobals "Reader" = some (some (.ref U16))) (hcU16 : ca 16 = U16) (pgU16 : PySem.W.plainGet K U16 Str.empty = true) (hdU16 : PySem.W.hasDictIn K U16 = true) (poU16 : PySem.W.plainOver K U16 = true) (saU16 : PySem.W.findIn K (.ref U16) "__setattr__" = some (some (.builtin "object.__setattr__"))) (mkU16 : PySem.W.makesIn K U16 = true) (kcU16 : PySem.W.keepIn K (.ref U16) = true)
    (noU16_signs : PySem.W.findIn K (.ref U16) ("signs" : PySem.Str) = some none)
    (noU16_here : PySem.W.findIn K (.ref U16) ("here" : PySem.Str) = some none)
    (noU16_begun : PySem.W.findIn K (.ref U16) ("begun" : PySem.Str) = some none)
    {f0 : Addr} {od0 an0 : Option Addr} {sl0 : Array (Option Value)} {oc0 kV0 dc0 pm0 cd0 ct0 : Value}
    (a0 : PySem.W.nsIn K mainGlobals "is_whole" = some (some (.ref f0))) (l0 : K.lookup f0 = some ⟨oc0, od0, .func (PySem.W.fnOf "is_whole" "is_whole" (defArgs s_is_whole) (defBody s_is_whole) (defScope s_is_whole) .none kV0 dc0 pm0 an0 cd0 ct0), sl0⟩) (c0 : PySem.W.codeIn K cd0 "is_whole" = true) (k0 : PySem.W.keepIn K (.ref f0) = true)
    {f1 : Addr} {od1 an1 : Option Addr} {sl1 : Array (Option Value)} {oc1 kV1 dc1 pm1 cd1 ct1 : Value}
    (a1 : PySem.W.nsIn K mainGlobals "is_cell" = some (some (.ref f1))) (l1 : K.lookup f1 = some ⟨oc1, od1, .func (PySem.W.fnOf "is_cell" "is_cell" (defArgs s_is_cell) (defBody s_is_cell) (defScope s_is_cell) .none kV1 dc1 pm1 an1 cd1 ct1), sl1⟩) (c1 : PySem.W.codeIn K cd1 "is_cell" = true) (k1 : PySem.W.keepIn K (.ref f1) = true)
    {f2 : Addr} {od2 an2 : Option Addr} {sl2 : Array (Option Value)} {oc2 kV2 dc2 pm2 cd2 ct2 : Value}
    (a2 : PySem.W.nsIn K mainGlobals "is_row" = some (some (.ref f2))) (l2 : K.lookup f2 = some ⟨oc2, od2, .func (PySem.W.fnOf "is_row" "is_row" (defArgs s_is_row) (defBody s_is_row) (defScope s_is_row) .none kV2 dc2 pm2 an2 cd2 ct2), sl2⟩) (c2 : PySem.W.codeIn K cd2 "is_row" = true) (k2 : PySem.W.keepIn K (.ref f2) = true)
    {f3 : Addr} {od3 an3 : Option Addr} {sl3 : Array (Option Value)} {oc3 kV3 dc3 pm3 cd3 ct3 : Value}
    (a3 : PySem.W.nsIn K mainGlobals "row_bits" = some (some (.ref f3))) (l3 : K.lookup f3 = some ⟨oc3, od3, .func (PySem.W.fnOf "row_bits" "row_bits" (defArgs s_row_bits) (defBody s_row_bits) (defScope s_row_bits) .none kV3 dc3 pm3 an3 cd3 ct3), sl3⟩) (c3 : PySem.W.codeIn K cd3 "row_bits" = true) (k3 : PySem.W.keepIn K (.ref f3) = true)
    {f4 : Addr} {od4 an4 : Option Addr} {sl4 : Array (Option Value)} {oc4 kV4 dc4 pm4 cd4 ct4 : Value}
    (a4 : PySem.W.nsIn K mainGlobals "pictured" = some (some (.ref f4))) (l4 : K.lookup f4 = some ⟨oc4, od4, .func (PySem.W.fnOf "pictured" "pictured" (defArgs s_pictured) (defBody s_pictured) (defScope s_pictured) .none kV4 dc4 pm4 an4 cd4 ct4), sl4⟩) (c4 : PySem.W.codeIn K cd4 "pictured" = true) (k4 : PySem.W.keepIn K (.ref f4) = true)
    {f5 : Addr} {od5 an5 : Option Addr} {sl5 : Array (Option Value)} {oc5 kV5 dc5 pm5 cd5 ct5 : Value}
    (a5 : PySem.W.nsIn K mainGlobals "cell_in" = some (some (.ref f5))) (l5 : K.lookup f5 = some ⟨oc5, od5, .func (PySem.W.fnOf "cell_in" "cell_in" (defArgs s_cell_in) (defBody s_cell_in) (defScope s_cell_in) .none kV5 dc5 pm5 an5 cd5 ct5), sl5⟩) (c5 : PySem.W.codeIn K cd5 "cell_in" = true) (k5 : PySem.W.keepIn K (.ref f5) = true)
    {f6 : Addr} {od6 an6 : Option Addr} {sl6 : Array (Option Value)} {oc6 kV6 dc6 pm6 cd6 ct6 : Value}
    (a6 : PySem.W.nsIn K mainGlobals "rows_of" = some (some (.ref f6))) (l6 : K.lookup f6 = some ⟨oc6, od6, .func (PySem.W.fnOf "rows_of" "rows_of" (defArgs s_rows_of) (defBody s_rows_of) (defScope s_rows_of) .none kV6 dc6 pm6 an6 cd6 ct6), sl6⟩) (c6 : PySem.W.codeIn K cd6 "rows_of" = true) (k6 : PySem.W.keepIn K (.ref f6) = true)
    {f7 : Addr} {od7 an7 : Option Addr} {sl7 : Array (Option Value)} {oc7 kV7 dc7 pm7 cd7 ct7 : Value}
    (a7 : PySem.W.nsIn K mainGlobals "cells_by" = some (some (.ref f7))) (l7 : K.lookup f7 = some ⟨oc7, od7, .func (PySem.W.fnOf "cells_by" "cells_by" (defArgs s_cells_by) (defBody s_cells_by) (defScope s_cells_by) .none kV7 dc7 pm7 an7 cd7 ct7), sl7⟩) (c7 : PySem.W.codeIn K cd7 "cells_by" = true) (k7 : PySem.W.keepIn K (.ref f7) = true)
    {f8 : Addr} {od8 an8 : Option Addr} {sl8 : Array (Option Value)} {oc8 kV8 dc8 pm8 cd8 ct8 : Value}
    (a8 : PySem.W.nsIn K mainGlobals "read_drawing" = some (some (.ref f8))) (l8 : K.lookup f8 = some ⟨oc8, od8, .func (PySem.W.fnOf "read_drawing" "read_drawing" (defArgs s_read_drawing) (defBody s_read_drawing) (defScope s_read_drawing) .none kV8 dc8 pm8 an8 cd8 ct8), sl8⟩) (c8 : PySem.W.codeIn K cd8 "read_drawing" = true) (k8 : PySem.W.keepIn K (.ref f8) = true)
    {f9 : Addr} {od9 an9 : Option Addr} {sl9 : Array (Option Value)} {oc9 kV9 dc9 pm9 cd9 ct9 : Value}
    (a9 : PySem.W.nsIn K mainGlobals "row_text" = some (some (.ref f9))) (l9 : K.lookup f9 = some ⟨oc9, od9, .func (PySem.W.fnOf "row_text" "row_text" (defArgs s_row_text) (defBody s_row_text) (defScope s_row_text) .none kV9 dc9 pm9 an9 cd9 ct9), sl9⟩) (c9 : PySem.W.codeIn K cd9 "row_text" = true) (k9 : PySem.W.keepIn K (.ref f9) = true)
    {f10 : Addr} {od10 an10 : Option Addr} {sl10 : Array (Option Value)} {oc10 kV10 dc10 pm10 cd10 ct10 : Value}
    (a10 : PySem.W.nsIn K mainGlobals "drawing_of" = some (some (.ref f10))) (l10 : K.lookup f10 = some ⟨oc10, od10, .func (PySem.W.fnOf "drawing_of" "drawing_of" (defArgs s_drawing_of) (defBody s_drawing_of) (defScope s_drawing_of) .none kV10 dc10 pm10 an10 cd10 ct10), sl10⟩) (c10 : PySem.W.codeIn K cd10 "drawing_of" = true) (k10 : PySem.W.keepIn K (.ref f10) = true)
    {f11 : Addr} {od11 an11 : Option Addr} {sl11 : Array (Option Value)} {oc11 kV11 dc11 pm11 cd11 ct11 : Value}
    (a11 : PySem.W.nsIn K mainGlobals "whole_in" = some (some (.ref f11))) (l11 : K.lookup f11 = some ⟨oc11, od11, .func (PySem.W.fnOf "whole_in" "whole_in" (defArgs s_whole_in) (defBody s_whole_in) (defScope s_whole_in) .none kV11 dc11 pm11 an11 cd11 ct11), sl11⟩) (c11 : PySem.W.codeIn K cd11 "whole_in" = true) (k11 : PySem.W.keepIn K (.ref f11) = true)
    {f12 : Addr} {od12 an12 : Option Addr} {sl12 : Array (Option Value)} {oc12 kV12 dc12 pm12 cd12 ct12 : Value}
    (a12 : PySem.W.findIn K (.ref U16) "__init__" = some (some (.ref f12))) (l12 : K.lookup f12 = some ⟨oc12, od12, .func (PySem.W.fnOf "__init__" "Reader.__init__" (defArgs s_Reader_init) (defBody s_Reader_init) (defScope s_Reader_init) .none kV12 dc12 pm12 an12 cd12 ct12), sl12⟩) (c12 : PySem.W.codeIn K cd12 "Reader.__init__" = true) (k12 : PySem.W.keepIn K (.ref f12) = true)
    (i12 : PySem.W.isFn K (.ref f12) = true)
    {f13 : Addr} {od13 an13 : Option Addr} {sl13 : Array (Option Value)} {oc13 kV13 dc13 pm13 cd13 ct13 : Value}
    (a13 : PySem.W.findIn K (.ref U16) "due_word" = some (some (.ref f13))) (l13 : K.lookup f13 = some ⟨oc13, od13, .func (PySem.W.fnOf "due_word" "Reader.due_word" (defArgs s_Reader_due_word) (defBody s_Reader_due_word) (defScope s_Reader_due_word) .none kV13 dc13 pm13 an13 cd13 ct13), sl13⟩) (c13 : PySem.W.codeIn K cd13 "Reader.due_word" = true) (k13 : PySem.W.keepIn K (.ref f13) = true)
    (i13 : PySem.W.isFn K (.ref f13) = true)
    {f14 : Addr} {od14 an14 : Option Addr} {sl14 : Array (Option Value)} {oc14 kV14 dc14 pm14 cd14 ct14 : Value}
    (a14 : PySem.W.findIn K (.ref U16) "take" = some (some (.ref f14))) (l14 : K.lookup f14 = some ⟨oc14, od14, .func (PySem.W.fnOf "take" "Reader.take" (defArgs s_Reader_take) (defBody s_Reader_take) (defScope s_Reader_take) .none kV14 dc14 pm14 an14 cd14 ct14), sl14⟩) (c14 : PySem.W.codeIn K cd14 "Reader.take" = true) (k14 : PySem.W.keepIn K (.ref f14) = true)
    (i14 : PySem.W.isFn K (.ref f14) = true)
    {f15 : Addr} {od15 an15 : Option Addr} {sl15 : Array (Option Value)} {oc15 kV15 dc15 pm15 cd15 ct15 : Value}
    (a15 : PySem.W.findIn K (.ref U16) "take_whole" = some (some (.ref f15))) (l15 : K.lookup f15 = some ⟨oc15, od15, .func (PySem.W.fnOf "take_whole" "Reader.take_whole" (defArgs s_Reader_take_whole) (defBody s_Reader_take_whole) (defScope s_Reader_take_whole) .none kV15 dc15 pm15 an15 cd15 ct15), sl15⟩) (c15 : PySem.W.codeIn K cd15 "Reader.take_whole" = true) (k15 : PySem.W.keepIn K (.ref f15) = true)
    (i15 : PySem.W.isFn K (.ref f15) = true)
    {f16 : Addr} {od16 an16 : Option Addr} {sl16 : Array (Option Value)} {oc16 kV16 dc16 pm16 cd16 ct16 : Value}
    (a16 : PySem.W.findIn K (.ref U16) "take_picture" = some (some (.ref f16))) (l16 : K.lookup f16 = some ⟨oc16, od16, .func (PySem.W.fnOf "take_picture" "Reader.take_picture" (defArgs s_Reader_take_picture) (defBody s_Reader_take_picture) (defScope s_Reader_take_picture) .none kV16 dc16 pm16 an16 cd16 ct16), sl16⟩) (c16 : PySem.W.codeIn K cd16 "Reader.take_picture" = true) (k16 : PySem.W.keepIn K (.ref f16) = true)
    (i16 : PySem.W.isFn K (.ref f16) = true)
    {f17 : Addr} {od17 an17 : Option Addr} {sl17 : Array (Option Value)} {oc17 kV17 dc17 pm17 cd17 ct17 : Value}
    (a17 : PySem.W.findIn K (.ref U16) "take_scene" = some (some (.ref f17))) (l17 : K.lookup f17 = some ⟨oc17, od17, .func (PySem.W.fnOf "take_scene" "Reader.take_scene" (defArgs s_Reader_take_scene) (defBody s_Reader_take_scene) (defScope s_Reader_take_scene) .none kV17 dc17 pm17 an17 cd17 ct17), sl17⟩) (c17 : PySem.W.codeIn K cd17 "Reader.take_scene" = true) (k17 : PySem.W.keepIn K (.ref f17) = true)
    (i17 : PySem.W.isFn K (.ref f17) = true)
    {f18 : Addr} {od18 an18 : Option Addr} {sl18 : Array (Option Value)} {oc18 kV18 dc18 pm18 cd18 ct18 : Value}
    (a18 : PySem.W.findIn K (.ref U16) "take_parts" = some (some (.ref f18))) (l18 : K.lookup f18 = some ⟨oc18, od18, .func (PySem.W.fnOf "take_parts" "Reader.take_parts" (defArgs s_Reader_take_parts) (defBody s_Reader_take_parts) (defScope s_Reader_take_parts) .none kV18 dc18 pm18 an18 cd18 ct18), sl18⟩) (c18 : PySem.W.codeIn K cd18 "Reader.take_parts" = true) (k18 : PySem.W.keepIn K (.ref f18) = true)
    (i18 : PySem.W.isFn K (.ref f18) = true)
    {f19 : Addr} {od19 an19 : Option Addr} {sl19 : Array (Option Value)} {oc19 kV19 dc19 pm19 cd19 ct19 : Value}
    (a19 : PySem.W.nsIn K mainGlobals "read_scene" = some (some (.ref f19))) (l19 : K.lookup f19 = some ⟨oc19, od19, .func (PySem.W.fnOf "read_scene" "read_scene" (defArgs s_read_scene) (defBody s_read_scene) (defScope s_read_scene) .none kV19 dc19 pm19 an19 cd19 ct19), sl19⟩) (c19 : PySem.W.codeIn K cd19 "read_scene" = true) (k19 : PySem.W.keepIn K (.ref f19) = true)
    {f20 : Addr} {od20 an20 : Option Addr} {sl20 : Array (Option Value)} {oc20 kV20 dc20 pm20 cd20 ct20 : Value}
    (a20 : PySem.W.nsIn K mainGlobals "words_of" = some (some (.ref f20))) (l20 : K.lookup f20 = some ⟨oc20, od20, .func (PySem.W.fnOf "words_of" "words_of" (defArgs s_words_of) (defBody s_words_of) (defScope s_words_of) .none kV20 dc20 pm20 an20 cd20 ct20), sl20⟩) (c20 : PySem.W.codeIn K cd20 "words_of" = true) (k20 : PySem.W.keepIn K (.ref f20) = true)
    {f21 : Addr} {od21 an21 : Option Addr} {sl21 : Array (Option Value)} {oc21 kV21 dc21 pm21 cd21 ct21 : Value}
    (a21 : PySem.W.nsIn K mainGlobals "scene_text" = some (some (.ref f21))) (l21 : K.lookup f21 = some ⟨oc21, od21, .func (PySem.W.fnOf "scene_text" "scene_text" (defArgs s_scene_text) (defBody s_scene_text) (defScope s_scene_text) .none kV21 dc21 pm21 an21 cd21 ct21), sl21⟩) (c21 : PySem.W.codeIn K cd21 "scene_text" = true) (k21 : PySem.W.keepIn K (.ref f21) = true)
    {f22 : Addr} {od22 an22 : Option Addr} {sl22 : Array (Option Value)} {oc22 kV22 dc22 pm22 cd22 ct22 : Value}
    (a22 : PySem.W.nsIn K mainGlobals "_law_cell_at" = some (some (.ref f22))) (l22 : K.lookup f22 = some ⟨oc22, od22, .func (PySem.W.fnOf "_law_cell_at" "_law_cell_at" (defArgs s_L_cell_at) (defBody s_L_cell_at) (defScope s_L_cell_at) .none kV22 dc22 pm22 an22 cd22 ct22), sl22⟩) (c22 : PySem.W.codeIn K cd22 "_law_cell_at" = true) (k22 : PySem.W.keepIn K (.ref f22) = true)
    {f23 : Addr} {od23 an23 : Option Addr} {sl23 : Array (Option Value)} {oc23 kV23 dc23 pm23 cd23 ct23 : Value}
    (a23 : PySem.W.nsIn K mainGlobals "_law_pick" = some (some (.ref f23))) (l23 : K.lookup f23 = some ⟨oc23, od23, .func (PySem.W.fnOf "_law_pick" "_law_pick" (defArgs s_L_pick) (defBody s_L_pick) (defScope s_L_pick) .none kV23 dc23 pm23 an23 cd23 ct23), sl23⟩) (c23 : PySem.W.codeIn K cd23 "_law_pick" = true) (k23 : PySem.W.keepIn K (.ref f23) = true)
    {f24 : Addr} {od24 an24 : Option Addr} {sl24 : Array (Option Value)} {oc24 kV24 dc24 pm24 cd24 ct24 : Value}
    (a24 : PySem.W.nsIn K mainGlobals "_law_cells" = some (some (.ref f24))) (l24 : K.lookup f24 = some ⟨oc24, od24, .func (PySem.W.fnOf "_law_cells" "_law_cells" (defArgs s_L_cells) (defBody s_L_cells) (defScope s_L_cells) .none kV24 dc24 pm24 an24 cd24 ct24), sl24⟩) (c24 : PySem.W.codeIn K cd24 "_law_cells" = true) (k24 : PySem.W.keepIn K (.ref f24) = true)
    {f25 : Addr} {od25 an25 : Option Addr} {sl25 : Array (Option Value)} {oc25 kV25 dc25 pm25 cd25 ct25 : Value}
    (a25 : PySem.W.nsIn K mainGlobals "_law_picture" = some (some (.ref f25))) (l25 : K.lookup f25 = some ⟨oc25, od25, .func (PySem.W.fnOf "_law_picture" "_law_picture" (defArgs s_L_picture) (defBody s_L_picture) (defScope s_L_picture) .none kV25 dc25 pm25 an25 cd25 ct25), sl25⟩) (c25 : PySem.W.codeIn K cd25 "_law_picture" = true) (k25 : PySem.W.keepIn K (.ref f25) = true)
    {f26 : Addr} {od26 an26 : Option Addr} {sl26 : Array (Option Value)} {oc26 kV26 dc26 pm26 cd26 ct26 : Value}
    (a26 : PySem.W.nsIn K mainGlobals "_law_pic_by" = some (some (.ref f26))) (l26 : K.lookup f26 = some ⟨oc26, od26, .func (PySem.W.fnOf "_law_pic_by" "_law_pic_by" (defArgs s_L_pic_by) (defBody s_L_pic_by) (defScope s_L_pic_by) .none kV26 dc26 pm26 an26 cd26 ct26), sl26⟩) (c26 : PySem.W.codeIn K cd26 "_law_pic_by" = true) (k26 : PySem.W.keepIn K (.ref f26) = true)
    {f27 : Addr} {od27 an27 : Option Addr} {sl27 : Array (Option Value)} {oc27 kV27 dc27 pm27 cd27 ct27 : Value}
    (a27 : PySem.W.nsIn K mainGlobals "_law_place" = some (some (.ref f27))) (l27 : K.lookup f27 = some ⟨oc27, od27, .func (PySem.W.fnOf "_law_place" "_law_place" (defArgs s_L_place) (defBody s_L_place) (defScope s_L_place) .none kV27 dc27 pm27 an27 cd27 ct27), sl27⟩) (c27 : PySem.W.codeIn K cd27 "_law_place" = true) (k27 : PySem.W.keepIn K (.ref f27) = true)
    {f28 : Addr} {od28 an28 : Option Addr} {sl28 : Array (Option Value)} {oc28 kV28 dc28 pm28 cd28 ct28 : Value}
    (a28 : PySem.W.nsIn K mainGlobals "_law_size" = some (some (.ref f28))) (l28 : K.lookup f28 = some ⟨oc28, od28, .func (PySem.W.fnOf "_law_size" "_law_size" (defArgs s_L_size) (defBody s_L_size) (defScope s_L_size) .none kV28 dc28 pm28 an28 cd28 ct28), sl28⟩) (c28 : PySem.W.codeIn K cd28 "_law_size" = true) (k28 : PySem.W.keepIn K (.ref f28) = true)
    {f29 : Addr} {od29 an29 : Option Addr} {sl29 : Array (Option Value)} {oc29 kV29 dc29 pm29 cd29 ct29 : Value}
    (a29 : PySem.W.nsIn K mainGlobals "_law_part" = some (some (.ref f29))) (l29 : K.lookup f29 = some ⟨oc29, od29, .func (PySem.W.fnOf "_law_part" "_law_part" (defArgs s_L_part) (defBody s_L_part) (defScope s_L_part) .none kV29 dc29 pm29 an29 cd29 ct29), sl29⟩) (c29 : PySem.W.codeIn K cd29 "_law_part" = true) (k29 : PySem.W.keepIn K (.ref f29) = true)
    {f30 : Addr} {od30 an30 : Option Addr} {sl30 : Array (Option Value)} {oc30 kV30 dc30 pm30 cd30 ct30 : Value}
    (a30 : PySem.W.nsIn K mainGlobals "_law_scene" = some (some (.ref f30))) (l30 : K.lookup f30 = some ⟨oc30, od30, .func (PySem.W.fnOf "_law_scene" "_law_scene" (defArgs s_L_scene) (defBody s_L_scene) (defScope s_L_scene) .none kV30 dc30 pm30 an30 cd30 ct30), sl30⟩) (c30 : PySem.W.codeIn K cd30 "_law_scene" = true) (k30 : PySem.W.keepIn K (.ref f30) = true)
    {f31 : Addr} {od31 an31 : Option Addr} {sl31 : Array (Option Value)} {oc31 kV31 dc31 pm31 cd31 ct31 : Value}
    (a31 : PySem.W.nsIn K mainGlobals "_law_bent" = some (some (.ref f31))) (l31 : K.lookup f31 = some ⟨oc31, od31, .func (PySem.W.fnOf "_law_bent" "_law_bent" (defArgs s_L_bent) (defBody s_L_bent) (defScope s_L_bent) .none kV31 dc31 pm31 an31 cd31 ct31), sl31⟩) (c31 : PySem.W.codeIn K cd31 "_law_bent" = true) (k31 : PySem.W.keepIn K (.ref f31) = true)
    {f32 : Addr} {od32 an32 : Option Addr} {sl32 : Array (Option Value)} {oc32 kV32 dc32 pm32 cd32 ct32 : Value}
    (a32 : PySem.W.nsIn K mainGlobals "_law_drawing" = some (some (.ref f32))) (l32 : K.lookup f32 = some ⟨oc32, od32, .func (PySem.W.fnOf "_law_drawing" "_law_drawing" (defArgs s_L_drawing) (defBody s_L_drawing) (defScope s_L_drawing) .none kV32 dc32 pm32 an32 cd32 ct32), sl32⟩) (c32 : PySem.W.codeIn K cd32 "_law_drawing" = true) (k32 : PySem.W.keepIn K (.ref f32) = true)
    {f33 : Addr} {od33 an33 : Option Addr} {sl33 : Array (Option Value)} {oc33 kV33 dc33 pm33 cd33 ct33 : Value}
    (a33 : PySem.W.nsIn K mainGlobals "_law_words" = some (some (.ref f33))) (l33 : K.lookup f33 = some ⟨oc33, od33, .func (PySem.W.fnOf "_law_words" "_law_words" (defArgs s_L_words) (defBody s_L_words) (defScope s_L_words) .none kV33 dc33 pm33 an33 cd33 ct33), sl33⟩) (c33 : PySem.W.codeIn K cd33 "_law_words" = true) (k33 : PySem.W.keepIn K (.ref f33) = true)
    {f34 : Addr} {od34 an34 : Option Addr} {sl34 : Array (Option Value)} {oc34 kV34 dc34 pm34 cd34 ct34 : Value}
    (a34 : PySem.W.nsIn K mainGlobals "_law_great" = some (some (.ref f34))) (l34 : K.lookup f34 = some ⟨oc34, od34, .func (PySem.W.fnOf "_law_great" "_law_great" (defArgs s_L_great) (defBody s_L_great) (defScope s_L_great) .none kV34 dc34 pm34 an34 cd34 ct34), sl34⟩) (c34 : PySem.W.codeIn K cd34 "_law_great" = true) (k34 : PySem.W.keepIn K (.ref f34) = true)
    {f35 : Addr} {od35 an35 : Option Addr} {sl35 : Array (Option Value)} {oc35 kV35 dc35 pm35 cd35 ct35 : Value}
    (a35 : PySem.W.nsIn K mainGlobals "law" = some (some (.ref f35))) (l35 : K.lookup f35 = some ⟨oc35, od35, .func (PySem.W.fnOf "law" "law" (defArgs s_law) (defBody s_law) (defScope s_law) .none kV35 dc35 pm35 an35 cd35 ct35), sl35⟩) (c35 : PySem.W.codeIn K cd35 "law" = true) (k35 : PySem.W.keepIn K (.ref f35) = true)
    {C0 : Addr} (gX0 : PySem.W.nsIn K mainGlobals "GlowError" = some (some (.ref C0))) (hca0 : ca 0 = C0) (tyX0 : PySem.W.typeIn K (.ref C0) = some (.type "type")) (hdX0 : PySem.W.hasDictIn K C0 = true) (sbX0 : PySem.W.subIn K (.ref C0) (.type "BaseException") = some true)
    {C7 : Addr} (gX7 : PySem.W.nsIn K mainGlobals "NoPicture" = some (some (.ref C7))) (hca7 : ca 7 = C7) (tyX7 : PySem.W.typeIn K (.ref C7) = some (.type "type")) (hdX7 : PySem.W.hasDictIn K C7 = true) (sbX7 : PySem.W.subIn K (.ref C7) (.type "BaseException") = some true)
    {C13 : Addr} (gX13 : PySem.W.nsIn K mainGlobals "NoText" = some (some (.ref C13))) (hca13 : ca 13 = C13) (tyX13 : PySem.W.typeIn K (.ref C13) = some (.type "type")) (hdX13 : PySem.W.hasDictIn K C13 = true) (sbX13 : PySem.W.subIn K (.ref C13) (.type "BaseException") = some true)
    (hnX : PySem.W.specialIn K (.builtin "object.__class__") "__get__" = some (some (.builtin "getset_descriptor.__get__"))) (htX : PySem.W.takesIn K (.builtin "object.__class__") = some true)
    (gaG : PySem.W.specialIn K (.ref C0) "__getattribute__" = some (some (.builtin "type.__getattribute__"))) (rdG : PySem.W.readsIn K C0 (.type "type") = true) (fcG : PySem.W.findCls K (.ref C0) (.type "type") "__init__" = some (.val (.builtin "ValueError.__init__")))
    {NX7 : Addr} {nmX7 qX7 : Str} {bsX7 : List Value} {snX7 : List Str} {subX7 : List Value} {abX7 : Bool} {colX7 : Option Bool} {ddX7 : Option Addr} {m0X7 m1X7 m2X7 m3X7 m5X7 : Option Value}
    {fI7 : Addr} {odI7 anI7 : Option Addr} {slI7 : Array (Option Value)} {ocI7 kVI7 dcI7 pmI7 cdI7 ctI7 : Value}
    (xlX7 : K.lookup C7 = some (PySem.excClassObj nmX7 qX7 C7 NX7 bsX7 [.ref C0, .type "ValueError", .type "Exception", .type "BaseException", .type "object"] true snX7 subX7 abX7 colX7 ddX7 m0X7 m1X7 m2X7 m3X7 m5X7 "ValueError.__new__"))
    (saX7 : PySem.W.findIn K (.ref C7) "__setattr__" = some (some (.builtin "object.__setattr__")))
    (aiX7 : PySem.W.findIn K (.ref C7) "__init__" = some (some (.ref fI7))) (tiX7 : PySem.W.typeIn K (.ref fI7) = some (.type "function")) (liX7 : K.lookup fI7 = some ⟨ocI7, odI7, .func (PySem.W.fnOf "__init__" "NoPicture.__init__" (defArgs s_ini_NoPicture) (defBody s_ini_NoPicture) (defScope s_ini_NoPicture) .none kVI7 dcI7 pmI7 anI7 cdI7 ctI7), slI7⟩)
    (ciX7 : PySem.W.codeIn K cdI7 "NoPicture.__init__" = true) (kiX7 : PySem.W.keepIn K (.ref fI7) = true)
    (noX7_row : PySem.W.findIn K (.ref C7) ("row" : PySem.Str) = some none)
    (kpX7 : PySem.W.keepIn K (.ref C7) = true) (haX7 : PySem.W.findIn K (.ref C7) "__getattribute__" = some (some (.builtin "BaseException.__getattribute__"))) (hbX7 : PySem.W.findIn K (.ref C7) "__getattr__" = some none) (hcX7 : PySem.W.findIn K (.ref C7) "__class__" = some (some (.builtin "object.__class__"))) (hmX7 : PySem.W.mroIn K C7 (.type "object") = some true)
    (sX7_0 : PySem.W.subIn K (.ref C7) (.ref C0) = some true)
    (sX7_7 : PySem.W.subIn K (.ref C7) (.ref C7) = some true)
    (sX7_13 : PySem.W.subIn K (.ref C7) (.ref C13) = some false)
    {NX13 : Addr} {nmX13 qX13 : Str} {bsX13 : List Value} {snX13 : List Str} {subX13 : List Value} {abX13 : Bool} {colX13 : Option Bool} {ddX13 : Option Addr} {m0X13 m1X13 m2X13 m3X13 m5X13 : Option Value}
    {fI13 : Addr} {odI13 anI13 : Option Addr} {slI13 : Array (Option Value)} {ocI13 kVI13 dcI13 pmI13 cdI13 ctI13 : Value}
    (xlX13 : K.lookup C13 = some (PySem.excClassObj nmX13 qX13 C13 NX13 bsX13 [.ref C0, .type "ValueError", .type "Exception", .type "BaseException", .type "object"] true snX13 subX13 abX13 colX13 ddX13 m0X13 m1X13 m2X13 m3X13 m5X13 "ValueError.__new__"))
    (saX13 : PySem.W.findIn K (.ref C13) "__setattr__" = some (some (.builtin "object.__setattr__")))
    (aiX13 : PySem.W.findIn K (.ref C13) "__init__" = some (some (.ref fI13))) (tiX13 : PySem.W.typeIn K (.ref fI13) = some (.type "function")) (liX13 : K.lookup fI13 = some ⟨ocI13, odI13, .func (PySem.W.fnOf "__init__" "NoText.__init__" (defArgs s_ini_NoText) (defBody s_ini_NoText) (defScope s_ini_NoText) .none kVI13 dcI13 pmI13 anI13 cdI13 ctI13), slI13⟩)
    (ciX13 : PySem.W.codeIn K cdI13 "NoText.__init__" = true) (kiX13 : PySem.W.keepIn K (.ref fI13) = true)
    (noX13_at : PySem.W.findIn K (.ref C13) ("at" : PySem.Str) = some none)
    (kpX13 : PySem.W.keepIn K (.ref C13) = true) (haX13 : PySem.W.findIn K (.ref C13) "__getattribute__" = some (some (.builtin "BaseException.__getattribute__"))) (hbX13 : PySem.W.findIn K (.ref C13) "__getattr__" = some none) (hcX13 : PySem.W.findIn K (.ref C13) "__class__" = some (some (.builtin "object.__class__"))) (hmX13 : PySem.W.mroIn K C13 (.type "object") = some true)
    (sX13_0 : PySem.W.subIn K (.ref C13) (.ref C0) = some true)
    (sX13_7 : PySem.W.subIn K (.ref C13) (.ref C7) = some false)
    (sX13_13 : PySem.W.subIn K (.ref C13) (.ref C13) = some true)
    : ∃ fd : FuncData, (∀ (s : Shared) (v : Value), BindsTo s fd ⟨[v], []⟩ [("_law_script", v)]) ∧ ∀ base : Heap, K.In base → base.Ns mainGlobals mg → FnG l.prog w K mg base (L2.CX l.prog w) 36 fa fd ["_law_script"] (spF ⟨K, ca⟩ F_law) := by
  have e := hfa.symm.trans (PySem.W.mg_of X G a35)
  cases e
  have B : Bi mg := ⟨PySem.W.mg_none_of X G z_all_, PySem.W.mg_none_of X G z_bool_, PySem.W.mg_none_of X G z_enumerate, PySem.W.mg_none_of X G z_int_, PySem.W.mg_none_of X G z_isinstance, PySem.W.mg_none_of X G z_len, PySem.W.mg_none_of X G z_list_, PySem.W.mg_none_of X G z_range, PySem.W.mg_none_of X G z_repr_, PySem.W.mg_none_of X G z_str_, PySem.W.mg_none_of X G z_tuple_, PySem.W.mg_none_of X G z_zip, ⟨_, PySem.W.mg_of X G g_COLOURS⟩, ⟨_, PySem.W.mg_of X G g_DEEP⟩, ⟨_, PySem.W.mg_of X G g_FAR⟩, ⟨_, PySem.W.mg_of X G g_MANY⟩, ⟨_, PySem.W.mg_of X G g_MOST⟩, ⟨_, PySem.W.mg_of X G g_SIGNS⟩⟩
  have EC7 : ExcC K (ca 7) := by rw [hca7]; exact ⟨haX7, hbX7, sbX7, hdX7, hcX7, hnX, htX, hmX7⟩
  have EC13 : ExcC K (ca 13) := by rw [hca13]; exact ⟨haX13, hbX13, sbX13, hdX13, hcX13, hnX, htX, hmX13⟩
  have BX : Bx l.prog w K mg ca := by
    refine ⟨?_, ?_, ?_, ?_, ?_, ?_, ?_, ?_, ?_, ?_, ?_, ?_, ?_, ?_⟩
    · rw [hca0]; exact PySem.W.mg_of X G gX0
    · exact fun k b h => by
          obtain ⟨hm, e⟩ := isT_cases h
          simp only [List.mem_cons, List.not_mem_nil, or_false] at hm
          rcases hm with rfl | rfl
          · rw [hca7, hca0]; exact catch_fact e.symm sbX0 hdX0 tyX0 sX7_0
          · rw [hca13, hca0]; exact catch_fact e.symm sbX0 hdX0 tyX0 sX13_0
    · exact fun k b h => by
          obtain ⟨hm, e⟩ := isT_cases h
          simp only [List.mem_cons, List.not_mem_nil, or_false] at hm
          rcases hm with rfl | rfl
          · exact ⟨EC7, by rw [hca7, hca0]; exact (kit_fact sX7_7 tyX0 hdX0 sX7_0).trans e.symm⟩
          · exact ⟨EC13, by rw [hca13, hca0]; exact (kit_fact sX13_13 tyX0 hdX0 sX13_0).trans e.symm⟩
    · rw [hca7]; exact PySem.W.mg_of X G gX7
    · exact fun k b h => by
          obtain ⟨hm, e⟩ := isT_cases h
          simp only [List.mem_cons, List.not_mem_nil, or_false] at hm
          rcases hm with rfl | rfl
          · rw [hca7]; exact catch_fact e.symm sbX7 hdX7 tyX7 sX7_7
          · rw [hca13, hca7]; exact catch_fact e.symm sbX7 hdX7 tyX7 sX13_7
    · exact fun k b h => by
          obtain ⟨hm, e⟩ := isT_cases h
          simp only [List.mem_cons, List.not_mem_nil, or_false] at hm
          rcases hm with rfl | rfl
          · exact ⟨EC7, by rw [hca7]; exact (kit_fact sX7_7 tyX7 hdX7 sX7_7).trans e.symm⟩
          · exact ⟨EC13, by rw [hca13, hca7]; exact (kit_fact sX13_13 tyX7 hdX7 sX13_7).trans e.symm⟩
    · rw [hca13]; exact PySem.W.mg_of X G gX13
    · exact fun k b h => by
          obtain ⟨hm, e⟩ := isT_cases h
          simp only [List.mem_cons, List.not_mem_nil, or_false] at hm
          rcases hm with rfl | rfl
          · rw [hca7, hca13]; exact catch_fact e.symm sbX13 hdX13 tyX13 sX7_13
          · rw [hca13]; exact catch_fact e.symm sbX13 hdX13 tyX13 sX13_13
    · exact fun k b h => by
          obtain ⟨hm, e⟩ := isT_cases h
          simp only [List.mem_cons, List.not_mem_nil, or_false] at hm
          rcases hm with rfl | rfl
          · exact ⟨EC7, by rw [hca7, hca13]; exact (kit_fact sX7_7 tyX13 hdX13 sX7_13).trans e.symm⟩
          · exact ⟨EC13, by rw [hca13]; exact (kit_fact sX13_13 tyX13 hdX13 sX13_13).trans e.symm⟩
    · rw [hca7]; exact ⟨⟨⟨_, _, _, _, _, _, _, _, _, _, _, _, _, _, _, xlX7, (show PySem.HandSPX.refsVE [.type "ValueError", .type "Exception", .type "BaseException", .type "object"] = true by decide +kernel)⟩, saX7, sbX7, tyX7, kpX7⟩, (fun f hf => by simp only [List.mem_cons, List.not_mem_nil, or_false] at hf; subst hf; exact noX7_row), PySem.W.mg_of X G gX7, fI7, _, _, aiX7, tiX7, fun base => ini_NoPicture ⟨PySem.W.mg_of X G gX0, tyX0, gaG, rdG, fcG⟩ liX7 ciX7, (fun_mk (st := s_ini_NoPicture) liX7 ciX7 kiX7).binds (ps := [("self" : PySem.Str), ("row" : PySem.Str)]) fun _ _ _ _ _ _ us hl => match us, hl with | [_, _], _ => rfl⟩
    · rw [hca13]; exact ⟨⟨⟨_, _, _, _, _, _, _, _, _, _, _, _, _, _, _, xlX13, (show PySem.HandSPX.refsVE [.type "ValueError", .type "Exception", .type "BaseException", .type "object"] = true by decide +kernel)⟩, saX13, sbX13, tyX13, kpX13⟩, (fun f hf => by simp only [List.mem_cons, List.not_mem_nil, or_false] at hf; subst hf; exact noX13_at), PySem.W.mg_of X G gX13, fI13, _, _, aiX13, tiX13, fun base => ini_NoText ⟨PySem.W.mg_of X G gX0, tyX0, gaG, rdG, fcG⟩ liX13 ciX13, (fun_mk (st := s_ini_NoText) liX13 ciX13 kiX13).binds (ps := [("self" : PySem.Str), ("at" : PySem.Str)]) fun _ _ _ _ _ _ us hl => match us, hl with | [_, _], _ => rfl⟩
    · exact fun k h => by
          have h := of_decide_eq_true h
          simp only [List.mem_cons, List.not_mem_nil, or_false] at h
          subst h
          · rw [hcU16]; exact ⟨⟨pgU16, hdU16, poU16, saU16⟩, noU16_begun⟩
    · exact fun k h => by
          have h := of_decide_eq_true h
          simp only [List.mem_cons, List.not_mem_nil, or_false] at h
          subst h
          · rw [hcU16]; exact ⟨⟨pgU16, hdU16, poU16, saU16⟩, noU16_here⟩
    · exact fun k h => by
          have h := of_decide_eq_true h
          simp only [List.mem_cons, List.not_mem_nil, or_false] at h
          subst h
          · rw [hcU16]; exact ⟨⟨pgU16, hdU16, poU16, saU16⟩, noU16_signs⟩
  have F0 := fun_mk (st := s_is_whole) l0 c0 k0
  have b0 := F0.binds (ps := [("thing" : PySem.Str)]) fun _ _ _ _ _ _ us hl => match us, hl with | [_], _ => rfl
  have F1 := fun_mk (st := s_is_cell) l1 c1 k1
  have b1 := F1.binds (ps := [("thing" : PySem.Str)]) fun _ _ _ _ _ _ us hl => match us, hl with | [_], _ => rfl
  have F2 := fun_mk (st := s_is_row) l2 c2 k2
  have b2 := F2.binds (ps := [("thing" : PySem.Str), ("wide" : PySem.Str)]) fun _ _ _ _ _ _ us hl => match us, hl with | [_, _], _ => rfl
  have F3 := fun_mk (st := s_row_bits) l3 c3 k3
  have b3 := F3.binds (ps := [("row" : PySem.Str)]) fun _ _ _ _ _ _ us hl => match us, hl with | [_], _ => rfl
  have F4 := fun_mk (st := s_pictured) l4 c4 k4
  have b4 := F4.binds (ps := [("rows" : PySem.Str)]) fun _ _ _ _ _ _ us hl => match us, hl with | [_], _ => rfl
  have F5 := fun_mk (st := s_cell_in) l5 c5 k5
  have b5 := F5.binds (ps := [("paint" : PySem.Str), ("mask" : PySem.Str), ("x" : PySem.Str)]) fun _ _ _ _ _ _ us hl => match us, hl with | [_, _, _], _ => rfl
  have F6 := fun_mk (st := s_rows_of) l6 c6 k6
  have b6 := F6.binds (ps := [("pic" : PySem.Str)]) fun _ _ _ _ _ _ us hl => match us, hl with | [_], _ => rfl
  have F7 := fun_mk (st := s_cells_by) l7 c7 k7
  have b7 := F7.binds (ps := [("row" : PySem.Str)]) fun _ _ _ _ _ _ us hl => match us, hl with | [_], _ => rfl
  have F8 := fun_mk (st := s_read_drawing) l8 c8 k8
  have b8 := F8.binds (ps := [("text" : PySem.Str)]) fun _ _ _ _ _ _ us hl => match us, hl with | [_], _ => rfl
  have F9 := fun_mk (st := s_row_text) l9 c9 k9
  have b9 := F9.binds (ps := [("row" : PySem.Str)]) fun _ _ _ _ _ _ us hl => match us, hl with | [_], _ => rfl
  have F10 := fun_mk (st := s_drawing_of) l10 c10 k10
  have b10 := F10.binds (ps := [("pic" : PySem.Str)]) fun _ _ _ _ _ _ us hl => match us, hl with | [_], _ => rfl
  have F11 := fun_mk (st := s_whole_in) l11 c11 k11
  have b11 := F11.binds (ps := [("word" : PySem.Str), ("low" : PySem.Str), ("high" : PySem.Str)]) fun _ _ _ _ _ _ us hl => match us, hl with | [_, _, _], _ => rfl
  have F12 := fun_mk (st := s_Reader_init) l12 c12 k12
  have b12 := F12.binds (ps := [("self" : PySem.Str), ("text" : PySem.Str)]) fun _ _ _ _ _ _ us hl => match us, hl with | [_, _], _ => rfl
  have F13 := fun_mk (st := s_Reader_due_word) l13 c13 k13
  have b13 := F13.binds (ps := [("self" : PySem.Str)]) fun _ _ _ _ _ _ us hl => match us, hl with | [_], _ => rfl
  have F14 := fun_mk (st := s_Reader_take) l14 c14 k14
  have b14 := F14.binds (ps := [("self" : PySem.Str), ("wanted" : PySem.Str)]) fun _ _ _ _ _ _ us hl => match us, hl with | [_, _], _ => rfl
  have F15 := fun_mk (st := s_Reader_take_whole) l15 c15 k15
  have b15 := F15.binds (ps := [("self" : PySem.Str), ("low" : PySem.Str), ("high" : PySem.Str)]) fun _ _ _ _ _ _ us hl => match us, hl with | [_, _, _], _ => rfl
  have F16 := fun_mk (st := s_Reader_take_picture) l16 c16 k16
  have b16 := F16.binds (ps := [("self" : PySem.Str)]) fun _ _ _ _ _ _ us hl => match us, hl with | [_], _ => rfl
  have F17 := fun_mk (st := s_Reader_take_scene) l17 c17 k17
  have b17 := F17.binds (ps := [("self" : PySem.Str), ("deep" : PySem.Str)]) fun _ _ _ _ _ _ us hl => match us, hl with | [_, _], _ => rfl
  have F18 := fun_mk (st := s_Reader_take_parts) l18 c18 k18
  have b18 := F18.binds (ps := [("self" : PySem.Str), ("deep" : PySem.Str)]) fun _ _ _ _ _ _ us hl => match us, hl with | [_, _], _ => rfl
  have F19 := fun_mk (st := s_read_scene) l19 c19 k19
  have b19 := F19.binds (ps := [("text" : PySem.Str)]) fun _ _ _ _ _ _ us hl => match us, hl with | [_], _ => rfl
  have F20 := fun_mk (st := s_words_of) l20 c20 k20
  have b20 := F20.binds (ps := [("some" : PySem.Str)]) fun _ _ _ _ _ _ us hl => match us, hl with | [_], _ => rfl
  have F21 := fun_mk (st := s_scene_text) l21 c21 k21
  have b21 := F21.binds (ps := [("scene" : PySem.Str)]) fun _ _ _ _ _ _ us hl => match us, hl with | [_], _ => rfl
  have F22 := fun_mk (st := s_L_cell_at) l22 c22 k22
  have b22 := F22.binds (ps := [("_law_script" : PySem.Str), ("_law_k" : PySem.Str)]) fun _ _ _ _ _ _ us hl => match us, hl with | [_, _], _ => rfl
  have F23 := fun_mk (st := s_L_pick) l23 c23 k23
  have b23 := F23.binds (ps := [("_law_number" : PySem.Str), ("_law_turn" : PySem.Str), ("_law_many" : PySem.Str)]) fun _ _ _ _ _ _ us hl => match us, hl with | [_, _, _], _ => rfl
  have F24 := fun_mk (st := s_L_cells) l24 c24 k24
  have b24 := F24.binds (ps := [("_law_script" : PySem.Str), ("_law_first" : PySem.Str), ("_law_most" : PySem.Str)]) fun _ _ _ _ _ _ us hl => match us, hl with | [_, _, _], _ => rfl
  have F25 := fun_mk (st := s_L_picture) l25 c25 k25
  have b25 := F25.binds (ps := [("_law_rows" : PySem.Str)]) fun _ _ _ _ _ _ us hl => match us, hl with | [_], _ => rfl
  have F26 := fun_mk (st := s_L_pic_by) l26 c26 k26
  have b26 := F26.binds (ps := [("_law_cell" : PySem.Str)]) fun _ _ _ _ _ _ us hl => match us, hl with | [_], _ => rfl
  have F27 := fun_mk (st := s_L_place) l27 c27 k27
  have b27 := F27.binds (ps := [("_law_cell" : PySem.Str), ("_law_turn" : PySem.Str)]) fun _ _ _ _ _ _ us hl => match us, hl with | [_, _], _ => rfl
  have F28 := fun_mk (st := s_L_size) l28 c28 k28
  have b28 := F28.binds (ps := [("_law_scene_here" : PySem.Str)]) fun _ _ _ _ _ _ us hl => match us, hl with | [_], _ => rfl
  have F29 := fun_mk (st := s_L_part) l29 c29 k29
  have b29 := F29.binds (ps := [("_law_cell" : PySem.Str), ("_law_turn" : PySem.Str), ("_law_wide" : PySem.Str), ("_law_high" : PySem.Str), ("_law_inner" : PySem.Str)]) fun _ _ _ _ _ _ us hl => match us, hl with | [_, _, _, _, _], _ => rfl
  have F30 := fun_mk (st := s_L_scene) l30 c30 k30
  have b30 := F30.binds (ps := [("_law_script" : PySem.Str), ("_law_k" : PySem.Str), ("_law_deep" : PySem.Str)]) fun _ _ _ _ _ _ us hl => match us, hl with | [_, _, _], _ => rfl
  have F31 := fun_mk (st := s_L_bent) l31 c31 k31
  have b31 := F31.binds (ps := [("_law_scene_here" : PySem.Str), ("_law_cell" : PySem.Str)]) fun _ _ _ _ _ _ us hl => match us, hl with | [_, _], _ => rfl
  have F32 := fun_mk (st := s_L_drawing) l32 c32 k32
  have b32 := F32.binds (ps := [("_law_pic" : PySem.Str)]) fun _ _ _ _ _ _ us hl => match us, hl with | [_], _ => rfl
  have F33 := fun_mk (st := s_L_words) l33 c33 k33
  have b33 := F33.binds (ps := [("_law_scene_here" : PySem.Str)]) fun _ _ _ _ _ _ us hl => match us, hl with | [_], _ => rfl
  have F34 := fun_mk (st := s_L_great) l34 c34 k34
  have b34 := F34.binds (ps := [("_law_cell" : PySem.Str), ("_law_scene_here" : PySem.Str)]) fun _ _ _ _ _ _ us hl => match us, hl with | [_, _], _ => rfl
  have F35 := fun_mk (st := s_law) l35 c35 k35
  refine ⟨PySem.W.fnOf "law" "law" (defArgs s_law) (defBody s_law) (defScope s_law) .none kV35 dc35 pm35 an35 cd35 ct35, fun s v => .of_eq rfl, fun base _ _ => ?_⟩
  have c_is_whole : Cal l.prog w K mg base ca 1 "is_whole" [] F_is_whole := Cal.mk0 F0 (fn_ok F0 sc_is_whole fun cdv A outer s H E hr => snd_is_whole B BX  hr) (PySem.W.mg_of X G a0) b0
  have c_is_cell : Cal l.prog w K mg base ca 2 "is_cell" [] F_is_cell := Cal.mk0 F1 (fn_ok F1 sc_is_cell fun cdv A outer s H E hr => snd_is_cell B BX c_is_whole hr) (PySem.W.mg_of X G a1) b1
  have c_is_row : Cal l.prog w K mg base ca 3 "is_row" [] F_is_row := Cal.mk0 F2 (fn_ok F2 sc_is_row fun cdv A outer s H E hr => snd_is_row B BX c_is_cell hr) (PySem.W.mg_of X G a2) b2
  have c_row_bits : Cal l.prog w K mg base ca 1 "row_bits" [] F_row_bits := Cal.mk0 F3 (fn_ok F3 sc_row_bits fun cdv A outer s H E hr => snd_row_bits B BX  hr) (PySem.W.mg_of X G a3) b3
  have c_pictured : Cal l.prog w K mg base ca 4 "pictured" [] F_pictured := Cal.mk0 F4 (fn_ok F4 sc_pictured fun cdv A outer s H E hr => snd_pictured B BX c_is_row c_row_bits hr) (PySem.W.mg_of X G a4) b4
  have c_cell_in : Cal l.prog w K mg base ca 1 "cell_in" [] F_cell_in := Cal.mk0 F5 (fn_ok F5 sc_cell_in fun cdv A outer s H E hr => snd_cell_in B BX  hr) (PySem.W.mg_of X G a5) b5
  have c_rows_of : Cal l.prog w K mg base ca 2 "rows_of" [] F_rows_of := Cal.mk0 F6 (fn_ok F6 sc_rows_of fun cdv A outer s H E hr => snd_rows_of B BX c_cell_in hr) (PySem.W.mg_of X G a6) b6
  have c_cells_by : Cal l.prog w K mg base ca 3 "cells_by" [] F_cells_by := Cal.mk0 F7 (fn_ok F7 sc_cells_by fun cdv A outer s H E hr => snd_cells_by B BX  hr) (PySem.W.mg_of X G a7) b7
  have c_read_drawing : Cal l.prog w K mg base ca 5 "read_drawing" [] F_read_drawing := Cal.mk0 F8 (fn_ok F8 sc_read_drawing fun cdv A outer s H E hr => snd_read_drawing B BX c_cells_by c_pictured hr) (PySem.W.mg_of X G a8) b8
  have c_row_text : Cal l.prog w K mg base ca 1 "row_text" [] F_row_text := Cal.mk0 F9 (fn_ok F9 sc_row_text fun cdv A outer s H E hr => snd_row_text B BX  hr) (PySem.W.mg_of X G a9) b9
  have c_drawing_of : Cal l.prog w K mg base ca 3 "drawing_of" [] F_drawing_of := Cal.mk0 F10 (fn_ok F10 sc_drawing_of fun cdv A outer s H E hr => snd_drawing_of B BX c_row_text c_rows_of hr) (PySem.W.mg_of X G a10) b10
  have c_whole_in : Cal l.prog w K mg base ca 1 "whole_in" [] F_whole_in := Cal.mk0 F11 (fn_ok F11 sc_whole_in fun cdv A outer s H E hr => snd_whole_in B BX  hr) (PySem.W.mg_of X G a11) b11
  have c_Reader_init : MkC l.prog w K mg base ca 1 "Reader" 16 [] F_Reader_init := MkC.mk0 F12 (fn_okM F12 sc_Reader_init fun cdv A outer s H E hr => snd_Reader_init B BX  hr) (by rw [hcU16]; exact PySem.W.mg_of X G gU16) (by rw [hcU16]; exact ⟨mkU16, a12, i12, kcU16⟩) b12
  have c_Reader_due_word : MeC l.prog w K mg base ca 3 "due_word" 16 [] F_Reader_due_word := MeC.mk0 F13 (fn_okX F13 sc_Reader_due_word fun cdv A outer s H E hr => snd_Reader_due_word B BX  hr) (by rw [hcU16]; exact ⟨pgU16, hdU16, poU16, saU16⟩) (by rw [hcU16]; exact a13) i13 b13
  have c_Reader_take : MeC l.prog w K mg base ca 4 "take" 16 [] F_Reader_take := MeC.mk0 F14 (fn_okX F14 sc_Reader_take fun cdv A outer s H E hr => snd_Reader_take B BX c_Reader_due_word hr) (by rw [hcU16]; exact ⟨pgU16, hdU16, poU16, saU16⟩) (by rw [hcU16]; exact a14) i14 b14
  have c_Reader_take_whole : MeC l.prog w K mg base ca 4 "take_whole" 16 [] F_Reader_take_whole := MeC.mk0 F15 (fn_okX F15 sc_Reader_take_whole fun cdv A outer s H E hr => snd_Reader_take_whole B BX c_Reader_due_word c_whole_in hr) (by rw [hcU16]; exact ⟨pgU16, hdU16, poU16, saU16⟩) (by rw [hcU16]; exact a15) i15 b15
  have c_Reader_take_picture : MeC l.prog w K mg base ca 6 "take_picture" 16 [] F_Reader_take_picture := MeC.mk0 F16 (fn_okX F16 sc_Reader_take_picture fun cdv A outer s H E hr => snd_Reader_take_picture B BX c_Reader_due_word c_read_drawing hr) (by rw [hcU16]; exact ⟨pgU16, hdU16, poU16, saU16⟩) (by rw [hcU16]; exact a16) i16 b16
  have cr_Reader_take_parts : ∀ n, (MeC l.prog w K mg base ca (n + 6) "take_scene" 16 [] (Fr_Reader_take_scene n)) ∧ (MeC l.prog w K mg base ca (n + 6) "take_parts" 16 [] (Fr_Reader_take_parts n)) := by
    intro n
    induction n with
    | zero => exact ⟨MeC.mk0 F17 (fn_bad) (by rw [hcU16]; exact ⟨pgU16, hdU16, poU16, saU16⟩) (by rw [hcU16]; exact a17) i17 b17, MeC.mk0 F18 (fn_bad) (by rw [hcU16]; exact ⟨pgU16, hdU16, poU16, saU16⟩) (by rw [hcU16]; exact a18) i18 b18⟩
    | succ n ih =>
      obtain ⟨c_Reader_take_scene, c_Reader_take_parts⟩ := ih
      exact ⟨MeC.mk0 F17 ((fn_okX F17 sc_Reader_take_scene fun cdv A outer s H E hr => snd_Reader_take_scene (n := n) B BX c_Reader_due_word c_Reader_take c_Reader_take_parts c_Reader_take_picture c_Reader_take_scene c_Reader_take_whole hr).mono (by omega)) (by rw [hcU16]; exact ⟨pgU16, hdU16, poU16, saU16⟩) (by rw [hcU16]; exact a17) i17 b17, MeC.mk0 F18 ((fn_okX F18 sc_Reader_take_parts fun cdv A outer s H E hr => snd_Reader_take_parts (n := n) B BX c_Reader_take c_Reader_take_scene c_Reader_take_whole hr).mono (by omega)) (by rw [hcU16]; exact ⟨pgU16, hdU16, poU16, saU16⟩) (by rw [hcU16]; exact a18) i18 b18⟩
  obtain ⟨c_Reader_take_scene, c_Reader_take_parts⟩ := cr_Reader_take_parts 28
  have c_read_scene : Cal l.prog w K mg base ca 35 "read_scene" [] F_read_scene := Cal.mk0 F19 (fn_ok F19 sc_read_scene fun cdv A outer s H E hr => snd_read_scene B BX c_Reader_init c_Reader_take_scene hr) (PySem.W.mg_of X G a19) b19
  have c_words_of : Cal l.prog w K mg base ca 1 "words_of" [] F_words_of := Cal.mk0 F20 (fn_ok F20 sc_words_of fun cdv A outer s H E hr => snd_words_of B BX  hr) (PySem.W.mg_of X G a20) b20
  have cr_scene_text : ∀ n, Cal l.prog w K mg base ca (n + 3) "scene_text" [] (Fr_scene_text n) := by
    intro n
    induction n with
    | zero => exact Cal.mk0 F21 fn_bad (PySem.W.mg_of X G a21) b21
    | succ n ih => exact Cal.mk0 F21 ((fn_ok F21 sc_scene_text fun cdv A outer s H E hr => snd_scene_text (n := n) (F_scene_text := Fr_scene_text n) B BX c_drawing_of c_words_of ih hr).mono (by omega)) (PySem.W.mg_of X G a21) b21
  have c_scene_text := cr_scene_text 16
  have c_L_cell_at : Cal l.prog w K mg base ca 1 "_law_cell_at" [] F_L_cell_at := Cal.mk0 F22 (fn_ok F22 sc_L_cell_at fun cdv A outer s H E hr => snd_L_cell_at B BX  hr) (PySem.W.mg_of X G a22) b22
  have c_L_pick : Cal l.prog w K mg base ca 1 "_law_pick" [] F_L_pick := Cal.mk0 F23 (fn_ok F23 sc_L_pick fun cdv A outer s H E hr => snd_L_pick B BX  hr) (PySem.W.mg_of X G a23) b23
  have c_L_cells : Cal l.prog w K mg base ca 2 "_law_cells" [] F_L_cells := Cal.mk0 F24 (fn_ok F24 sc_L_cells fun cdv A outer s H E hr => snd_L_cells B BX c_L_cell_at c_L_pick hr) (PySem.W.mg_of X G a24) b24
  have c_L_picture : Cal l.prog w K mg base ca 1 "_law_picture" [] F_L_picture := Cal.mk0 F25 (fn_ok F25 sc_L_picture fun cdv A outer s H E hr => snd_L_picture B BX  hr) (PySem.W.mg_of X G a25) b25
  have c_L_pic_by : Cal l.prog w K mg base ca 2 "_law_pic_by" [] F_L_pic_by := Cal.mk0 F26 (fn_ok F26 sc_L_pic_by fun cdv A outer s H E hr => snd_L_pic_by B BX c_L_pick c_L_picture hr) (PySem.W.mg_of X G a26) b26
  have c_L_place : Cal l.prog w K mg base ca 2 "_law_place" [] F_L_place := Cal.mk0 F27 (fn_ok F27 sc_L_place fun cdv A outer s H E hr => snd_L_place B BX c_L_pick hr) (PySem.W.mg_of X G a27) b27
  have cr_L_size : ∀ n, Cal l.prog w K mg base ca (n + 0) "_law_size" [] (Fr_L_size n) := by
    intro n
    induction n with
    | zero => exact Cal.mk0 F28 fn_bad (PySem.W.mg_of X G a28) b28
    | succ n ih => exact Cal.mk0 F28 ((fn_ok F28 sc_L_size fun cdv A outer s H E hr => snd_L_size (n := n) (F_L_size := Fr_L_size n) B BX  ih hr).mono (by omega)) (PySem.W.mg_of X G a28) b28
  have c_L_size := cr_L_size 16
  have c_L_part : Cal l.prog w K mg base ca 17 "_law_part" [] F_L_part := Cal.mk0 F29 (fn_ok F29 sc_L_part fun cdv A outer s H E hr => snd_L_part B BX c_L_pick c_L_place c_L_size hr) (PySem.W.mg_of X G a29) b29
  have cr_L_scene : ∀ n, Cal l.prog w K mg base ca (n + 17) "_law_scene" [] (Fr_L_scene n) := by
    intro n
    induction n with
    | zero => exact Cal.mk0 F30 fn_bad (PySem.W.mg_of X G a30) b30
    | succ n ih => exact Cal.mk0 F30 ((fn_ok F30 sc_L_scene fun cdv A outer s H E hr => snd_L_scene (n := n) (F_L_scene := Fr_L_scene n) B BX c_L_cell_at c_L_part c_L_pic_by c_L_pick c_L_place ih hr).mono (by omega)) (PySem.W.mg_of X G a30) b30
  have c_L_scene := cr_L_scene 16
  have cr_L_bent : ∀ n, Cal l.prog w K mg base ca (n + 16) "_law_bent" [] (Fr_L_bent n) := by
    intro n
    induction n with
    | zero => exact Cal.mk0 F31 fn_bad (PySem.W.mg_of X G a31) b31
    | succ n ih => exact Cal.mk0 F31 ((fn_ok F31 sc_L_bent fun cdv A outer s H E hr => snd_L_bent (n := n) (F_L_bent := Fr_L_bent n) B BX c_L_pick c_L_size ih hr).mono (by omega)) (PySem.W.mg_of X G a31) b31
  have c_L_bent := cr_L_bent 16
  have c_L_drawing : Cal l.prog w K mg base ca 1 "_law_drawing" [] F_L_drawing := Cal.mk0 F32 (fn_ok F32 sc_L_drawing fun cdv A outer s H E hr => snd_L_drawing B BX  hr) (PySem.W.mg_of X G a32) b32
  have cr_L_words : ∀ n, Cal l.prog w K mg base ca (n + 1) "_law_words" [] (Fr_L_words n) := by
    intro n
    induction n with
    | zero => exact Cal.mk0 F33 fn_bad (PySem.W.mg_of X G a33) b33
    | succ n ih => exact Cal.mk0 F33 ((fn_ok F33 sc_L_words fun cdv A outer s H E hr => snd_L_words (n := n) (F_L_words := Fr_L_words n) B BX c_L_drawing ih hr).mono (by omega)) (PySem.W.mg_of X G a33) b33
  have c_L_words := cr_L_words 16
  have c_L_great : Cal l.prog w K mg base ca 18 "_law_great" [] F_L_great := Cal.mk0 F34 (fn_ok F34 sc_L_great fun cdv A outer s H E hr => snd_L_great B BX c_L_part c_L_pic_by c_L_pick hr) (PySem.W.mg_of X G a34) b34
  exact fn_ok F35 sc_law fun cdv A outer s H E hr => snd_law B BX c_L_bent c_L_cell_at c_L_cells c_L_great c_L_scene c_L_words c_read_scene c_scene_text hr
local macro_rules | `(tactic| walk_at "ev") => `(tactic| simp -implicitDefEqProofs (disch := first | omega | (simp -implicitDefEqProofs only [p_int, p_non, p_bl, p_lst, p_tup, p_nil, p_cons, List.length_cons, List.length_nil, Nat.reduceAdd, Nat.reduceLT, decide_true, Bool.and_self, Bool.true_and]; done) | (simp -implicitDefEqProofs only [List.length_map, List.length_append, List.length_reverse, List.length_range, List.length_replicate, List.length_cons, List.length_nil, List.length_take, List.length_drop, rangeD_length]; omega) | assumption) only [v_bnd, v_bnd_exc, v_bnd_bad, v_bnd_ite, v_d1, v_d2, v_d2k, v_okS, v_fS, v_gInt, v_gCmp, v_eq_int, v_ne_int, v_eq_bl, v_ne_bl, v_gLt_int, v_gLt_pair, v_eq_strS, v_eq_str, v_ne_strS, v_ne_str, v_eq_ni, v_eq_in, v_eq_nn, v_ne_ni, v_ne_in, v_ne_nn, v_is_non, v_is_bl, v_isnot_non, v_isnot_bl, v_isn_non, v_isn_bl, v_isn_int, v_isn_str, v_isn_lst, v_isn_tup, v_mod, v_div, v_mul_l, v_mul_r, v_mul_mm, v_pow, v_shl, v_shls, v_shl_mm, v_shr, v_add_int, v_add_str, v_add_lst, v_add_tup, v_mul_int, v_mul_lst, v_U, v_var, v_vark, v_vark_dicI, v_movk_dicI0, v_vark_lstI, v_move, v_movk, v_movk_lstI, v_movk_lst, v_Lend, v_tLend, v_lendtk, v_lendtk_lstI, v_lendt2, v_ListV, v_lsvk, v_lendk, v_lendk_lstI, v_lend2, v_noBs_nil, v_noBs, v_noB_imm, v_noB_dead, v_noB_lstI, v_noB_lst, v_C, v_Fr, v_frk, v_frk_lstI, v_Dic0, v_Dic1, v_fDic1, v_frk_dicI, v_isn_dic, v_Nil, v_Cons, v_consk, v_consk2, v_Tup, v_fTup, v_tupk, v_Lst, v_fLst, v_lstk, v_frzs_nil, v_frzs, v_frzs_dicI, v_frzs_lstI, v_frzk, v_frz, v_frz_lstI, v_Bi, v_Call, v_callk, v_after, v_after_exc, v_after_ite, v_Seq, v_seqk, v_seqk_ret, v_seqk_exc, v_seqk_brk, v_seqk_cont, v_seqk_ite, v_exk, v_exk_exc, v_exk_ite, v_Raise, v_Try, v_tryk, v_exD, v_IsE, v_isek, v_anyO_nil, v_anyO_t, v_anyO_f, v_isT_nil, v_isT, v_isT2, v_Xf, v_Pass, v_Break, v_Cont, v_Set, v_setk, v_Ret, v_retk, v_RetN, v_Drop, v_dropk, v_Asg, v_asgk, v_asgk2, v_gName, v_gTup, v_gNil, v_gCons, v_gck, v_If, v_ifk, v_ifk_exc, v_ifk_ite, v_iteS_t, v_iteS_f, v_iteS_d, v_iteS_n, v_tVal, v_asBool, v_tAnd, v_tandk_t, v_tandk_f, v_tandk_d, v_tOr, v_tork_t, v_tork_f, v_tork_d, v_tNot, v_tnotk, v_tYes, v_And, v_andk_t, v_andk_f, v_andk_d, v_Or, v_ork_f, v_ork_t, v_ork_d, v_Not, v_notk, v_IfE, v_ifek, v_ifek_ite, v_iteE_t, v_iteE_f, v_iteE_d, v_iteE_n, v_fin_next, v_fin_ret, v_fin_exc, v_fin_ite, v_mkFn, v_rep0, v_repS, v_fLen, v_lenk, v_len_lst, v_len_tup, v_len_scr, v_len_str, v_lenV, v_lenvk, v_lenvk_lstI, v_lenvk_lst, v_fMinP2, v_fMinP_1, v_fMinP_2, v_fRepr, v_reprk, v_fAbs, v_fMax2, v_fMin2, v_fInt, v_fInt_bl, v_fTuple_l, v_bfl_f, v_bfl_t, v_fTuple_t, v_fList_l, v_fList_t, v_fList_b, v_fList_s, v_fBools, v_blk, v_fSum, v_sumk, v_intList, v_ints_nil, v_ints, v_bools_nil, v_bools, v_consO, v_isi, v_isik, v_isik2, v_isit, v_isitk, v_isIn_nil, v_isIn, v_isInk_t, v_isInk_f, v_tyB, v_ite_lt_t, v_ite_lt_f, v_ite_le_t, v_ite_le_f, v_ite_eq_t, v_ite_eq_f1, v_ite_eq_f2, v_Chain, v_chk1, v_chk2, v_chk3_t, v_chk3_f, v_chk3_d, v_okT, v_fIx, v_gIx_lst, v_gIx_tup, v_gIx_scr, v_itm_f, v_itm_int, v_itm_non, v_itm_lst, v_itm_tup, v_itm_str, v_ixV, v_ixk_lstI, v_ixk_imm, v_ixk2, v_ixk2', v_ixk3, v_ixk4, v_at0, v_at1, v_at2, v_at3, v_at4, v_at5, v_at6, v_at7, v_at8, v_at9, v_oNone, v_oSome, v_somek, v_Sl, v_slk, v_slk2, v_slk3, v_fSl_lst, v_fSl_tup, v_fSl_scr, v_cut_take, v_cut_drop, v_cut_mid, v_Append, v_appk, v_appk2, v_appk3, v_Clear, v_Reverse, v_rvsk, v_Lr, v_revk, v_Tr, v_tuprk, v_BitL, v_bitk, v_clrk, v_Pop, v_popk, v_Extend, v_extk, v_extk2, v_extk3, v_For, v_fork, v_for_nil, v_forkg, v_forkk, v_forkk_cont, v_forkk_brk, v_forkk_ret, v_forkk_exc, v_iVal, v_items_lst, v_items_tup, v_items_scr, v_iRange1, v_iRange3, v_iRange2, v_range1, v_range2, v_rangeD0, v_iRev, v_rev_lst, v_rev_tup, v_Lc, v_lck, v_lcf, v_kill0, v_killS, v_comp_nil, v_ckg, v_ck1_t, v_ck1_f, v_ck2, v_ck3, v_ck4, v_obind, v_asO, v_asO_nil, v_frk_lst, v_frlk, v_vark_lst, v_varl, v_lendk_lst, v_lendl, v_lendtk_lst, v_lendtl, v_frzs_lst, v_frzlk, v_AppendO, v_apo, v_pushk, v_pushk3, v_PopO, v_popk2, v_Append2, v_ap2a, v_app2, v_app2b, v_app2c, v_app3, v_app3_lstI, v_SetIx, v_sixk, v_sixk_lstI, v_six0, v_sixa, v_six, v_ForO, v_forOk, v_SetIx2, v_set2k, v_set2k_lstI, v_s20, v_s2a, v_s2b, v_s2c, v_s2d, v_s2d0, v_LcO, v_lckO1, v_lckO, v_dOrd, v_fOrd, v_ordk, v_fSortI, v_sortk, v_dLstRg, v_fLstRg, v_dMinDef, v_fMinDef, v_mindk, v_iEnumZ, v_enumZItems, v_Try0, v_tryk0, v_tryk0_ret, v_tryk0_exc, v_tryq0_t, v_tryq0_f, v_noExc_next, v_noExc_ret, v_noExc_brk, v_noExc_cont, v_Fld, v_fldk, v_Make, v_makek, v_afterMake, v_afterMakeX, v_Meth, v_methk, v_callo, v_Meth0, v_methk0, v_fDGet, v_fDictP, v_LenSet, v_lenSk, v_iRevRg, v_revRg, v_vark_obj, v_varo, v_frk_obj, v_frok, v_dMaxDef, v_fMaxDef, v_maxdk, v_MethD, v_mdk, v_MethD0, v_mdk0, v_methD, v_methD0, v_IsO, v_isOk, v_iZipT, v_zipItemsT, v_fSort2, v_LcX, v_lckX, v_endX, v_endX_exc, v_iEnumT, v_enumItemsT, v_ListW, v_lswk1, v_lswk2, v_MakeL, v_mklk, v_mkla, v_LCnt, v_lckc, v_lck2, v_DPop, v_dpk, v_dpopk, v_dpk2, v_KeysO, v_dikk, v_LendD, v_lendDk, v_lendDk_lstI, v_lendDk_dicI, v_lendD2, v_lendk_dicI, v_noB_dicI, v_ONew, v_O1, v_OIn, v_oink, v_oik2_f, v_oik2_t, v_oKey_non, v_oKey_int, v_OGet, v_ogk0, v_ogk, v_ogk2, v_OPut, v_opk0, v_opk1, v_opk2, v_opk3, v_noB_dic, v_dT1, v_t1k, v_dT0, v_t0k, v_fSplit, v_fFindT, v_fStarts, v_iEnum, v_enumItems, v_iZip, v_zipItems, v_RaiseF, v_raisx, v_raisk1, v_raisk1_int, v_raisk1_non, v_raisk2, v_isT2n, v_xfk1, v_xfk2a, v_xfk2b, v_inT_str, v_ninT_str, v_inT_non, v_inT_int, v_inT_bl, v_inT_lst, v_ninT_non, v_ninT_int, v_ninT_bl, v_ninT_lst, v_ClearO, v_clro, v_Clear2, v_clr20, v_clr2, v_clr2a, v_clr2b, v_gConsI, v_FldO, v_fldo, v_PutF, v_putfk, v_putfk_exc, v_putk, v_MethO0, v_MethO, v_methOq, v_methok, v_afterO, v_afterO_exc, v_finX_next, v_finX_ret, v_finX_exc, v_gNinU, v_gInU, v_LIdx, v_lxk, v_lxk2, v_S_eq, v_add_S, v_eq_S, v_ne_S, v_items_S, v_gIx_S, v_fSl_S, v_len_S, v_fSplit_S, v_fJoin_sg, v_inT_S, v_ninT_S, v_zfill, v_index16, v_index10, isB_NoneType_int, isB_NoneType_bool, isB_NoneType_str, isB_NoneType_list, isB_NoneType_tuple, isB_NoneType_dict, isB_bool_int, isB_bool_bool, isB_bool_str, isB_bool_list, isB_bool_tuple, isB_bool_dict, isB_int_int, isB_int_bool, isB_int_str, isB_int_list, isB_int_tuple, isB_int_dict, isB_str_int, isB_str_bool, isB_str_str, isB_str_list, isB_str_tuple, isB_str_dict, isB_list_int, isB_list_bool, isB_list_str, isB_list_list, isB_list_tuple, isB_list_dict, isB_tuple_int, isB_tuple_bool, isB_tuple_str, isB_tuple_list, isB_tuple_tuple, isB_tuple_dict, isB_dict_int, isB_dict_bool, isB_dict_str, isB_dict_list, isB_dict_tuple, isB_dict_dict, kind_NoneType, kind_bool, kind_int, kind_str, kind_list, kind_tuple, kind_dict, List.getElem?_cons_zero, List.getElem?_cons_succ, List.getElem?_nil, List.set_cons_zero, List.set_cons_succ, List.length_cons, List.length_nil, List.cons_append, List.nil_append, List.append_nil, List.map_nil, List.map_cons, Nat.reduceAdd, Nat.reduceSub, Nat.reduceMul, Nat.reduceEqDiff, Nat.reduceLeDiff, Nat.zero_add, Nat.add_zero, Bool.not_true, Bool.not_false, Bool.and_true, Bool.true_and, Bool.and_false, Bool.false_and, Bool.or_true, Bool.true_or, Bool.or_false, Bool.false_or, Bool.not_not, Bool.and_self, Bool.or_self, Option.map_some, Option.map_none, decide_true, decide_false, reduceCtorEq, Bool.false_eq_true, List.all_nil, List.all_cons, id_eq, ↓reduceIte, if_true, if_false, beq_self_eq_true, Int.reduceAdd, Int.reduceSub, Int.reduceMul, Int.reduceNeg, Int.reduceLT, Int.reduceLE, Int.reduceEq, Int.reduceNe, Int.reduceToNat, Int.reduceMod, Int.reduceDiv, Int.reducePow, Nat.reducePow, Nat.reduceBEq, Int.toNat_natCast, Int.zero_add, Int.add_zero, Int.sub_zero, ne_eq, not_true_eq_false, not_false_eq_true, and_true, true_and, and_self, Nat.lt_irrefl, Int.natCast_eq_zero, decide_not, eqv_int, List.length_append, List.length_map, Int.cast_ofNat_Int, List.sum_cons, List.sum_nil, ints_map, bools_map])
local macro_rules | `(tactic| walk_at "ev*") => `(tactic| simp -implicitDefEqProofs (disch := first | omega | (simp -implicitDefEqProofs only [p_int, p_non, p_bl, p_lst, p_tup, p_nil, p_cons, List.length_cons, List.length_nil, Nat.reduceAdd, Nat.reduceLT, decide_true, Bool.and_self, Bool.true_and]; done) | (simp -implicitDefEqProofs only [List.length_map, List.length_append, List.length_reverse, List.length_range, List.length_replicate, List.length_cons, List.length_nil, List.length_take, List.length_drop, rangeD_length]; omega) | assumption) only [v_bnd, v_bnd_exc, v_bnd_bad, v_bnd_ite, v_d1, v_d2, v_d2k, v_okS, v_fS, v_gInt, v_gCmp, v_eq_int, v_ne_int, v_eq_bl, v_ne_bl, v_gLt_int, v_gLt_pair, v_eq_strS, v_eq_str, v_ne_strS, v_ne_str, v_eq_ni, v_eq_in, v_eq_nn, v_ne_ni, v_ne_in, v_ne_nn, v_is_non, v_is_bl, v_isnot_non, v_isnot_bl, v_isn_non, v_isn_bl, v_isn_int, v_isn_str, v_isn_lst, v_isn_tup, v_mod, v_div, v_mul_l, v_mul_r, v_mul_mm, v_pow, v_shl, v_shls, v_shl_mm, v_shr, v_add_int, v_add_str, v_add_lst, v_add_tup, v_mul_int, v_mul_lst, v_U, v_var, v_vark, v_vark_dicI, v_movk_dicI0, v_vark_lstI, v_move, v_movk, v_movk_lstI, v_movk_lst, v_Lend, v_tLend, v_lendtk, v_lendtk_lstI, v_lendt2, v_ListV, v_lsvk, v_lendk, v_lendk_lstI, v_lend2, v_noBs_nil, v_noBs, v_noB_imm, v_noB_dead, v_noB_lstI, v_noB_lst, v_C, v_Fr, v_frk, v_frk_lstI, v_Dic0, v_Dic1, v_fDic1, v_frk_dicI, v_isn_dic, v_Nil, v_Cons, v_consk, v_consk2, v_Tup, v_fTup, v_tupk, v_Lst, v_fLst, v_lstk, v_frzs_nil, v_frzs, v_frzs_dicI, v_frzs_lstI, v_frzk, v_frz, v_frz_lstI, v_Bi, v_Call, v_callk, v_after, v_after_exc, v_after_ite, v_Seq, v_seqk, v_seqk_ret, v_seqk_exc, v_seqk_brk, v_seqk_cont, v_seqk_ite, v_exk, v_exk_exc, v_exk_ite, v_Raise, v_Try, v_tryk, v_exD, v_IsE, v_isek, v_anyO_nil, v_anyO_t, v_anyO_f, v_isT_nil, v_isT, v_isT2, v_Xf, v_Pass, v_Break, v_Cont, v_Set, v_setk, v_Ret, v_retk, v_RetN, v_Drop, v_dropk, v_Asg, v_asgk, v_asgk2, v_gName, v_gTup, v_gNil, v_gCons, v_gck, v_If, v_ifk, v_ifk_exc, v_ifk_ite, v_iteS_t, v_iteS_f, v_iteS_d, v_iteS_n, v_tVal, v_asBool, v_tAnd, v_tandk_t, v_tandk_f, v_tandk_d, v_tOr, v_tork_t, v_tork_f, v_tork_d, v_tNot, v_tnotk, v_tYes, v_And, v_andk_t, v_andk_f, v_andk_d, v_Or, v_ork_f, v_ork_t, v_ork_d, v_Not, v_notk, v_IfE, v_ifek, v_ifek_ite, v_iteE_t, v_iteE_f, v_iteE_d, v_iteE_n, v_fin_next, v_fin_ret, v_fin_exc, v_fin_ite, v_mkFn, v_rep0, v_repS, v_fLen, v_lenk, v_len_lst, v_len_tup, v_len_scr, v_len_str, v_lenV, v_lenvk, v_lenvk_lstI, v_lenvk_lst, v_fMinP2, v_fMinP_1, v_fMinP_2, v_fRepr, v_reprk, v_fAbs, v_fMax2, v_fMin2, v_fInt, v_fInt_bl, v_fTuple_l, v_bfl_f, v_bfl_t, v_fTuple_t, v_fList_l, v_fList_t, v_fList_b, v_fList_s, v_fBools, v_blk, v_fSum, v_sumk, v_intList, v_ints_nil, v_ints, v_bools_nil, v_bools, v_consO, v_isi, v_isik, v_isik2, v_isit, v_isitk, v_isIn_nil, v_isIn, v_isInk_t, v_isInk_f, v_tyB, v_ite_lt_t, v_ite_lt_f, v_ite_le_t, v_ite_le_f, v_ite_eq_t, v_ite_eq_f1, v_ite_eq_f2, v_Chain, v_chk1, v_chk2, v_chk3_t, v_chk3_f, v_chk3_d, v_okT, v_fIx, v_gIx_lst, v_gIx_tup, v_gIx_scr, v_itm_f, v_itm_int, v_itm_non, v_itm_lst, v_itm_tup, v_itm_str, v_ixV, v_ixk_lstI, v_ixk_imm, v_ixk2, v_ixk2', v_ixk3, v_ixk4, v_at0, v_at1, v_at2, v_at3, v_at4, v_at5, v_at6, v_at7, v_at8, v_at9, v_oNone, v_oSome, v_somek, v_Sl, v_slk, v_slk2, v_slk3, v_fSl_lst, v_fSl_tup, v_fSl_scr, v_cut_take, v_cut_drop, v_cut_mid, v_Append, v_appk, v_appk2, v_appk3, v_Clear, v_Reverse, v_rvsk, v_Lr, v_revk, v_Tr, v_tuprk, v_BitL, v_bitk, v_clrk, v_Pop, v_popk, v_Extend, v_extk, v_extk2, v_extk3, v_For, v_fork, v_for_nil, v_forkg, v_forkk, v_forkk_cont, v_forkk_brk, v_forkk_ret, v_forkk_exc, v_iVal, v_items_lst, v_items_tup, v_items_scr, v_iRange1, v_iRange3, v_iRange2, v_range1, v_range2, v_rangeD0, v_iRev, v_rev_lst, v_rev_tup, v_Lc, v_lck, v_lcf, v_kill0, v_killS, v_comp_nil, v_ckg, v_ck1_t, v_ck1_f, v_ck2, v_ck3, v_ck4, v_obind, v_asO, v_asO_nil, v_frk_lst, v_frlk, v_vark_lst, v_varl, v_lendk_lst, v_lendl, v_lendtk_lst, v_lendtl, v_frzs_lst, v_frzlk, v_AppendO, v_apo, v_pushk, v_pushk3, v_PopO, v_popk2, v_Append2, v_ap2a, v_app2, v_app2b, v_app2c, v_app3, v_app3_lstI, v_SetIx, v_sixk, v_sixk_lstI, v_six0, v_sixa, v_six, v_ForO, v_forOk, v_SetIx2, v_set2k, v_set2k_lstI, v_s20, v_s2a, v_s2b, v_s2c, v_s2d, v_s2d0, v_LcO, v_lckO1, v_lckO, v_dOrd, v_fOrd, v_ordk, v_fSortI, v_sortk, v_dLstRg, v_fLstRg, v_dMinDef, v_fMinDef, v_mindk, v_iEnumZ, v_enumZItems, v_Try0, v_tryk0, v_tryk0_ret, v_tryk0_exc, v_tryq0_t, v_tryq0_f, v_noExc_next, v_noExc_ret, v_noExc_brk, v_noExc_cont, v_Fld, v_fldk, v_Make, v_makek, v_afterMake, v_afterMakeX, v_Meth, v_methk, v_callo, v_Meth0, v_methk0, v_fDGet, v_fDictP, v_LenSet, v_lenSk, v_iRevRg, v_revRg, v_vark_obj, v_varo, v_frk_obj, v_frok, v_dMaxDef, v_fMaxDef, v_maxdk, v_MethD, v_mdk, v_MethD0, v_mdk0, v_methD, v_methD0, v_IsO, v_isOk, v_iZipT, v_zipItemsT, v_fSort2, v_LcX, v_lckX, v_endX, v_endX_exc, v_iEnumT, v_enumItemsT, v_ListW, v_lswk1, v_lswk2, v_MakeL, v_mklk, v_mkla, v_LCnt, v_lckc, v_lck2, v_DPop, v_dpk, v_dpopk, v_dpk2, v_KeysO, v_dikk, v_LendD, v_lendDk, v_lendDk_lstI, v_lendDk_dicI, v_lendD2, v_lendk_dicI, v_noB_dicI, v_ONew, v_O1, v_OIn, v_oink, v_oik2_f, v_oik2_t, v_oKey_non, v_oKey_int, v_OGet, v_ogk0, v_ogk, v_ogk2, v_OPut, v_opk0, v_opk1, v_opk2, v_opk3, v_noB_dic, v_dT1, v_t1k, v_dT0, v_t0k, v_fSplit, v_fFindT, v_fStarts, v_iEnum, v_enumItems, v_iZip, v_zipItems, v_RaiseF, v_raisx, v_raisk1, v_raisk1_int, v_raisk1_non, v_raisk2, v_isT2n, v_xfk1, v_xfk2a, v_xfk2b, v_inT_str, v_ninT_str, v_inT_non, v_inT_int, v_inT_bl, v_inT_lst, v_ninT_non, v_ninT_int, v_ninT_bl, v_ninT_lst, v_ClearO, v_clro, v_Clear2, v_clr20, v_clr2, v_clr2a, v_clr2b, v_gConsI, v_FldO, v_fldo, v_PutF, v_putfk, v_putfk_exc, v_putk, v_MethO0, v_MethO, v_methOq, v_methok, v_afterO, v_afterO_exc, v_finX_next, v_finX_ret, v_finX_exc, v_gNinU, v_gInU, v_LIdx, v_lxk, v_lxk2, v_S_eq, v_add_S, v_eq_S, v_ne_S, v_items_S, v_gIx_S, v_fSl_S, v_len_S, v_fSplit_S, v_fJoin_sg, v_inT_S, v_ninT_S, v_zfill, v_index16, v_index10, isB_NoneType_int, isB_NoneType_bool, isB_NoneType_str, isB_NoneType_list, isB_NoneType_tuple, isB_NoneType_dict, isB_bool_int, isB_bool_bool, isB_bool_str, isB_bool_list, isB_bool_tuple, isB_bool_dict, isB_int_int, isB_int_bool, isB_int_str, isB_int_list, isB_int_tuple, isB_int_dict, isB_str_int, isB_str_bool, isB_str_str, isB_str_list, isB_str_tuple, isB_str_dict, isB_list_int, isB_list_bool, isB_list_str, isB_list_list, isB_list_tuple, isB_list_dict, isB_tuple_int, isB_tuple_bool, isB_tuple_str, isB_tuple_list, isB_tuple_tuple, isB_tuple_dict, isB_dict_int, isB_dict_bool, isB_dict_str, isB_dict_list, isB_dict_tuple, isB_dict_dict, kind_NoneType, kind_bool, kind_int, kind_str, kind_list, kind_tuple, kind_dict, List.getElem?_cons_zero, List.getElem?_cons_succ, List.getElem?_nil, List.set_cons_zero, List.set_cons_succ, List.length_cons, List.length_nil, List.cons_append, List.nil_append, List.append_nil, List.map_nil, List.map_cons, Nat.reduceAdd, Nat.reduceSub, Nat.reduceMul, Nat.reduceEqDiff, Nat.reduceLeDiff, Nat.zero_add, Nat.add_zero, Bool.not_true, Bool.not_false, Bool.and_true, Bool.true_and, Bool.and_false, Bool.false_and, Bool.or_true, Bool.true_or, Bool.or_false, Bool.false_or, Bool.not_not, Bool.and_self, Bool.or_self, Option.map_some, Option.map_none, decide_true, decide_false, reduceCtorEq, Bool.false_eq_true, List.all_nil, List.all_cons, id_eq, ↓reduceIte, if_true, if_false, beq_self_eq_true, Int.reduceAdd, Int.reduceSub, Int.reduceMul, Int.reduceNeg, Int.reduceLT, Int.reduceLE, Int.reduceEq, Int.reduceNe, Int.reduceToNat, Int.reduceMod, Int.reduceDiv, Int.reducePow, Nat.reducePow, Nat.reduceBEq, Int.toNat_natCast, Int.zero_add, Int.add_zero, Int.sub_zero, ne_eq, not_true_eq_false, not_false_eq_true, and_true, true_and, and_self, Nat.lt_irrefl, Int.natCast_eq_zero, decide_not, eqv_int, List.length_append, List.length_map, Int.cast_ofNat_Int, List.sum_cons, List.sum_nil, ints_map, bools_map, *])
theorem cut_len {α : Type} {xs : List α} {a b : Option Int} : (cutD xs a b).length ≤ xs.length := by
  unfold cutD
  rw [List.length_take, List.length_drop]
  omega
theorem cell_at_ok {ns : List Int} {k : Int} (h1 : 0 ≤ k) : ∃ z, F_L_cell_at [.imm false (.scr ns), .imm false (.int k)] = .ok (.imm false (.int z)) := by
  by_cases h : k < (ns.length : Int)
  · obtain ⟨x, hx⟩ : ∃ x, L2.atI ns k = some x := by
      rw [atI_eq h1 h]
      exact ⟨_, List.getElem?_eq_getElem (by omega)⟩
    refine ⟨x, ?_⟩
    unfold F_L_cell_at den_L_cell_at
    walk_at "ev*"
  · refine ⟨0, ?_⟩
    unfold F_L_cell_at den_L_cell_at
    walk_at "ev*"
theorem pick_ok {z j m : Int} (h1 : 0 ≤ j) (h2 : j ≤ 1000000) (h4 : 0 < m) : ∃ r, 0 ≤ r ∧ r < m ∧ ∀ c1 c2 c3, F_L_pick [.imm c1 (.int z), .imm c2 (.int j), .imm c3 (.int m)] = .ok (.imm false (.int r)) := by
  refine ⟨(z % 2147483647 + 31 * j * j + 1) * (48271 + 40 * j) % 2147483629 / 11 % m, Int.emod_nonneg _ (by omega), Int.emod_lt_of_pos _ h4, fun c1 c2 c3 => ?_⟩
  unfold F_L_pick den_L_pick
  walk_at "ev*"
theorem cells_ok {ns : List Int} (hn : ns.length ≤ 63) {a m : Int} (h1 : 0 ≤ a) (h2 : a ≤ 100) (h3 : 1 ≤ m) (h4 : m ≤ 1000) : ∃ zs : List Int, zs.length ≤ m.toNat ∧ F_L_cells [.imm false (.scr ns), .imm false (.int a), .imm false (.int m)] = .ok (.lstI (zs.map D.int)) := by
  obtain ⟨z, ez⟩ := @cell_at_ok ns 0 (by omega)
  obtain ⟨r, r1, r2, er⟩ := @pick_ok z 77 m (by omega) (by omega) (by omega)
  obtain ⟨cs, ecs⟩ : ∃ cs, cs = cutD ns (some a) (some (a + m)) := ⟨_, rfl⟩
  have hc : cs.length ≤ 63 := by rw [ecs]; exact Nat.le_trans cut_len hn
  obtain ⟨ρ', e, ys, t5', hy, h5⟩ := forL_range (dg := dgName 5) (body := bd_L_cells_1) (b := false) (lo := 0) (n := r.toNat) (ρ := [.imm false (.scr ns), .imm false (.int a), .imm false (.int m), .imm false (.int z), .lstI (cs.map D.int), .dead])
    (P := fun i ρ => ∃ (ys : List Int) (t5 : T), ys.length ≤ 63 + i ∧ ρ = [.imm false (.scr ns), .imm false (.int a), .imm false (.int m), .imm false (.int z), .lstI (ys.map D.int), t5]) ⟨cs, _, by omega, rfl⟩ fun i ρ hi ⟨ys, t5, hy, eρ⟩ => by
      subst eρ
      refine ⟨_, [.imm false (.scr ns), .imm false (.int a), .imm false (.int m), .imm false (.int z), .lstI ((ys ++ [z * 3 + 7919 * (0 + (i : Int)) * (0 + (i : Int)) + 11]).map D.int), .imm false (.int (0 + (i : Int)))], rfl, .inl ?_, _, _, by simp; omega, rfl⟩
      have hl : (ys.map D.int).length < 16777216 := by simp; omega
      rw [List.map_append]
      unfold bd_L_cells_1
      walk_at "ev*"
  subst h5
  refine ⟨ys.take m.toNat, by rw [List.length_take]; exact Nat.min_le_left _ _, ?_⟩
  rw [List.map_take]
  subst ecs
  clear hy
  unfold F_L_cells den_L_cells
  walk_at "ev*"
theorem is_cell_ok {c : Bool} {x : Cell} (h : okc x) : F_is_cell [.imm c (cellD x)] = .ok (.imm false (.bl true)) := by
  cases x with
  | none =>
    unfold F_is_cell den_is_cell cellD
    walk_at "ev"
  | some n =>
    have h1 : n < 16 := h
    have e : ∀ c, F_is_whole [.imm c (.int n)] = .ok (.imm false (.bl true)) := fun c => by
      unfold F_is_whole den_is_whole
      walk_at "ev"
    have hd : decide ((n : Int) < 16) = true := decide_eq_true (by omega)
    unfold F_is_cell den_is_cell cellD
    walk_at "ev*"
theorem is_row_ok {r : List Cell} {w : Nat} (hl : r.length = w) (h : ∀ c ∈ r, okc c) (c c' : Bool) : F_is_row [.imm c (rowD r), .imm c' (.int w)] = .ok (.imm false (.bl true)) := by
  obtain ⟨ρ', e, h2⟩ := compL_mapf (dg := dgName 2) (dt := dtYes) (de := dFr (dCall F_is_cell [] (dCons (dVar 2) dNil))) (own := [2]) (b := c) (f := cellD) (g := fun _ => D.bl true)
      (P := fun ρ => ρ = [.imm c (rowD r), .imm c' (.int w), .dead]) r [.imm c (rowD r), .imm c' (.int w), .dead] rfl fun x ρ hx eρ => by
        subst eρ
        have q := is_cell_ok (c := c) (h x hx)
        refine ⟨_, _, .imm false (.bl true), [.imm c (rowD r), .imm c' (.int w), .imm c (cellD x)], rfl, rfl, ?_, rfl, rfl⟩
        clear hl h
        walk_at "ev*"
  subst h2
  have eb := all_bl r
  have ea := all_true r.length
  have el : (rowD r).len? = some w := by unfold rowD; rw [v_len_lst, List.length_map, hl]
  clear hl h
  unfold F_is_row den_is_row
  unfold rowD at *
  walk_at "ev*"
theorem row_bits_ok {r : List Cell} (hl : r.length ≤ 64) (h : ∀ c ∈ r, okc c) (c : Bool) : F_row_bits [.imm c (rowD r)] = .ok (.imm false (.tup [.int (pnt r), .int (msk r)])) := by
  obtain ⟨ρ', e, t3, h2⟩ := forL_range (dg := dgName 3) (body := bd_row_bits_1) (b := false) (lo := 0) (n := r.length) (ρ := [.imm c (rowD r), .imm false (.int 0), .imm false (.int 0), .dead])
    (P := fun x ρ => ∃ t3, ρ = [.imm c (rowD r), .imm false (.int (pnt (r.take x))), .imm false (.int (msk (r.take x))), t3]) ⟨.dead, by simp [pnt, msk]⟩ fun x ρ hx ⟨t3, eρ⟩ => by
      subst eρ
      obtain ⟨z, hz⟩ : ∃ z, r[x]? = some z := ⟨_, List.getElem?_eq_getElem hx⟩
      have et : r.take (x + 1) = r.take x ++ [z] := by rw [List.take_succ, hz]; rfl
      have lt : (r.take x).length = x := by simp; omega
      have g := gIx_row (c := c) hz
      have p1 := pnt_lt (w := 64) (fun c hc => h c (List.mem_of_mem_take hc)) (show (r.take x).length ≤ 64 by omega)
      have okz : okc z := h z (List.mem_of_getElem? hz)
      have q1 := pnt_or (l := r.take x) fun c hc => h c (List.mem_of_mem_take hc)
      have q2 := msk_or (l := r.take x)
      rw [lt] at q1 q2
      rw [et]
      cases z with
      | none =>
        rw [pnt_hole, msk_hole]
        refine ⟨_, [.imm c (rowD r), .imm false (.int (pnt (r.take x))), .imm false (.int (msk (r.take x))), .imm false (.int x)], by rw [Int.zero_add]; rfl, .inl ?_, _, rfl⟩
        replace g : gIx c (rowD r) (x : Int) = some (.imm false .non) := g
        clear et lt hz p1 q1 q2
        unfold bd_row_bits_1
        walk_at "ev*"
      | some n =>
        have hn : n < 16 := okz
        replace g : gIx c (rowD r) (x : Int) = some (.imm false (.int n)) := g
        replace q1 := q1 n
        replace q2 := q2 n
        refine ⟨_, [.imm c (rowD r), .imm false (.int (pnt (r.take x ++ [some n]))), .imm false (.int (msk (r.take x ++ [some n]))), .imm false (.int x)], by rw [Int.zero_add]; rfl, .inl ?_, _, rfl⟩
        clear et lt hz okz p1
        generalize pnt (r.take x ++ [some n]) = A at *
        generalize msk (r.take x ++ [some n]) = B at *
        unfold bd_row_bits_1
        walk_at "ev*"
  rw [List.take_length] at h2
  subst h2
  have el : (rowD r).len? = some r.length := by unfold rowD; rw [v_len_lst, List.length_map]
  unfold F_row_bits den_row_bits
  walk_at "ev*"
theorem pictured_ok {rs : List (List Cell)} {w h : Nat} (R : Rect rs w h) (c : Bool) : F_pictured [.imm c (rowsD rs)] = .ok (.imm false (picD w rs)) := by
  have l64 : rs.length ≤ 64 := by rw [R.len]; exact R.h64
  have l1 : 1 ≤ rs.length := by rw [R.len]; exact R.h1
  have w64 := R.w64
  have w1 := R.w1
  obtain ⟨r0, hr0⟩ : ∃ r0, rs[0]? = some r0 := ⟨_, List.getElem?_eq_getElem (by omega)⟩
  have g0 := gIx_rows (c := c) hr0
  have gl : (rowD r0).len? = some w := by unfold rowD; rw [v_len_lst, List.length_map, (R.row r0 (List.mem_of_getElem? hr0)).1]
  obtain ⟨ρ', e1, t2, h2⟩ := forL_range (dg := dgName 2) (body := bd_pictured_1) (b := false) (lo := 0) (n := rs.length) (ρ := [.imm c (rowsD rs), .imm false (.int w), .dead, .dead, .dead, .dead, .dead])
    (P := fun i ρ => ∃ t2, ρ = [.imm c (rowsD rs), .imm false (.int w), t2, .dead, .dead, .dead, .dead]) ⟨.dead, rfl⟩ fun i ρ hi ⟨t2, eρ⟩ => by
      subst eρ
      obtain ⟨r, hr⟩ : ∃ r, rs[i]? = some r := ⟨_, List.getElem?_eq_getElem hi⟩
      have g := gIx_rows (c := c) hr
      have q := is_row_ok (R.row r (List.mem_of_getElem? hr)).1 (R.row r (List.mem_of_getElem? hr)).2 c false
      refine ⟨_, [.imm c (rowsD rs), .imm false (.int w), .imm false (.int i), .dead, .dead, .dead, .dead], by rw [Int.zero_add]; rfl, .inl ?_, _, rfl⟩
      clear hr gl g0 hr0
      unfold bd_pictured_1
      walk_at "ev*"
  subst h2
  obtain ⟨ρ', e2, h2⟩ := compL_mapf (dg := dgName 4) (dt := dtYes) (de := dFr (dCall F_row_bits [] (dCons (dVar 4) dNil))) (own := [4]) (b := c) (f := rowD) (g := fun r => D.tup [.int (pnt r), .int (msk r)])
      (P := fun ρ => ρ = [.imm c (rowsD rs), .imm false (.int w), t2, .dead, .dead, .dead, .dead]) rs [.imm c (rowsD rs), .imm false (.int w), t2, .dead, .dead, .dead, .dead] rfl fun r ρ hr eρ => by
        subst eρ
        have q := row_bits_ok (by rw [(R.row r hr).1]; exact w64) (R.row r hr).2 c
        refine ⟨_, _, .imm false (.tup [.int (pnt r), .int (msk r)]), [.imm c (rowsD rs), .imm false (.int w), t2, .dead, .imm c (rowD r), .dead, .dead], rfl, rfl, ?_, rfl, rfl⟩
        clear e1 hr0 g0 gl
        walk_at "ev*"
  subst h2
  have pick : ∀ (k : Int) (f : List Cell → D) (t5 : T), (∀ r, gIx false (.tup [.int (pnt r), .int (msk r)]) k = some (.imm false (f r))) → compL (dgName 6) dtYes (dIxV 6 (dC (.int k))) [6] false (rs.map fun r => D.tup [.int (pnt r), .int (msk r)]) [.imm c (rowsD rs), .imm false (.int w), t2, .imm false (.lst (rs.map fun r => D.tup [.int (pnt r), .int (msk r)])), .dead, t5, .dead] =
      .ok (rs.map f) [.imm c (rowsD rs), .imm false (.int w), t2, .imm false (.lst (rs.map fun r => D.tup [.int (pnt r), .int (msk r)])), .dead, t5, .dead] := by
    intro k f t5 hk
    obtain ⟨ρ', e, h2⟩ := compL_mapf (dg := dgName 6) (dt := dtYes) (de := dIxV 6 (dC (.int k))) (own := [6]) (b := false) (f := fun r => D.tup [.int (pnt r), .int (msk r)]) (g := f)
      (P := fun ρ => ρ = [.imm c (rowsD rs), .imm false (.int w), t2, .imm false (.lst (rs.map fun r => D.tup [.int (pnt r), .int (msk r)])), .dead, t5, .dead]) rs [.imm c (rowsD rs), .imm false (.int w), t2, .imm false (.lst (rs.map fun r => D.tup [.int (pnt r), .int (msk r)])), .dead, t5, .dead] rfl fun r ρ hr eρ => by
        subst eρ
        have q := hk r
        refine ⟨_, _, .imm false (f r), [.imm c (rowsD rs), .imm false (.int w), t2, .imm false (.lst (rs.map fun r => D.tup [.int (pnt r), .int (msk r)])), .dead, t5, .imm false (.tup [.int (pnt r), .int (msk r)])], rfl, rfl, ?_, rfl, rfl⟩
        clear e1 e2 hr0 g0 gl hk
        walk_at "ev*"
    rw [e, h2]
  have k0 := fun t5 => pick 0 (fun r => .int (pnt r)) t5 fun r => rfl
  have k1 := fun t5 => pick 1 (fun r => .int (msk r)) t5 fun r => rfl
  have er : (rowsD rs).len? = some rs.length := by unfold rowsD; rw [v_len_lst, List.length_map]
  clear pick
  have ei : ∀ ρ, itemsOf (.imm c (rowsD rs)) ρ = .ok (c, rs.map rowD) ρ := fun _ => rfl
  have kr : (rowD r0).kind = some "list" := rfl
  have kr2 : (rowsD rs).kind = some "list" := rfl
  have gi : gIx c (rowsD rs) 0 = some (.imm c (rowD r0)) := g0
  clear g0 hr0
  unfold F_pictured den_pictured
  unfold picD
  walk_at "ev*"
theorem cell_in_ok {r : List Cell} (h : ∀ c ∈ r, okc c) (i : Nat) (c1 c2 c3 : Bool) : F_cell_in [.imm c1 (.int (pnt r)), .imm c2 (.int (msk r)), .imm c3 (.int i)] = .ok (.imm false (cellD (at? r i))) := by
  have e1 := and_one (msk r) i
  rw [msk_bit] at e1
  have e2 : (msk r : Int) / 2 ^ i = ((msk r >>> i : Nat) : Int) := shr_nat _ _
  have e3 : (pnt r : Int) / 2 ^ (4 * (i : Int)).toNat = ((pnt r >>> (4 * i) : Nat) : Int) := by
    rw [show (4 * (i : Int)).toNat = 4 * i by omega]
    exact shr_nat _ _
  cases hc : at? r i with
  | none =>
    rw [hc] at e1
    rw [if_neg (by simp)] at e1
    clear hc
    unfold F_cell_in den_cell_in cellD
    walk_at "ev*"
  | some n =>
    rw [hc] at e1
    rw [if_pos (show (some n).isSome = true from rfl)] at e1
    have e4 : Builtin.bitAnd ((pnt r >>> (4 * i) : Nat) : Int) 15 = (n : Int) := by
      rw [show (15 : Int) = ((15 : Nat) : Int) from rfl, band_nat]
      congr 1
      have hn : n < 16 := by
        have := okc_at h i
        rw [hc] at this
        exact this
      refine Nat.eq_of_testBit_eq fun k => ?_
      rw [Nat.testBit_and, Nat.testBit_shiftRight, show (15 : Nat) = 2 ^ 4 - 1 from rfl, Nat.testBit_two_pow_sub_one]
      by_cases hk : k < 4
      · rw [decide_eq_true hk, Bool.and_true, pnt_at h i k hk, hc]; rfl
      · rw [decide_eq_false hk, Bool.and_false]
        exact (Nat.testBit_lt_two_pow (Nat.lt_of_lt_of_le hn (show 2 ^ 4 ≤ 2 ^ k from Nat.pow_le_pow_right (by omega) (by omega)))).symm
    clear hc
    unfold F_cell_in den_cell_in cellD
    walk_at "ev*"
theorem row_range {r : List Cell} : ((List.range r.length).map fun i => cellD (at? r i)) = r.map cellD := by
  refine List.ext_getElem (by simp) fun i h1 h2 => ?_
  rw [List.getElem_map, List.getElem_map, List.getElem_range]
  unfold at?
  rw [List.getElem?_eq_getElem (by simpa using h2)]
  rfl
theorem rows_of_ok {rs : List (List Cell)} {w h : Nat} (R : Rect rs w h) (c : Bool) : F_rows_of [.imm c (picD w rs)] = .ok (.lstI (rs.map rowD)) := by
  have w64 := R.w64
  have l64 : rs.length ≤ 64 := by rw [R.len]; exact R.h64
  have comp : ∀ (j : Nat) (r : List Cell) (t1 : T), rs[j]? = some r → compL (dgName 3) dtYes (dFr (dCall F_cell_in [] (dCons (d2 fIx (dIxV 0 (dC (.int 2))) (dVar 2)) (dCons (d2 fIx (dIxV 0 (dC (.int 3))) (dVar 2)) (dCons (dVar 3) dNil))))) [3] false (rangeD 0 w) [.imm c (picD w rs), t1, .imm false (.int j), .dead] =
      .ok (r.map cellD) [.imm c (picD w rs), t1, .imm false (.int j), .dead] := by
    intro j r t1 hr
    have hr' := R.row r (List.mem_of_getElem? hr)
    have hj := (List.getElem?_eq_some_iff.mp hr).1
    have ep : L2.atI (rs.map fun r => D.int (pnt r)) (j : Int) = some (.int (pnt r)) := by
      rw [atI_eq (by omega) (by simp; omega), List.getElem?_map, Int.toNat_natCast, hr]; rfl
    have em : L2.atI (rs.map fun r => D.int (msk r)) (j : Int) = some (.int (msk r)) := by
      rw [atI_eq (by omega) (by simp; omega), List.getElem?_map, Int.toNat_natCast, hr]; rfl
    obtain ⟨ρ', e, h2⟩ := compL_range (dg := dgName 3) (dt := dtYes) (de := dFr (dCall F_cell_in [] (dCons (d2 fIx (dIxV 0 (dC (.int 2))) (dVar 2)) (dCons (d2 fIx (dIxV 0 (dC (.int 3))) (dVar 2)) (dCons (dVar 3) dNil))))) (own := [3]) (b := false) (lo := 0) (n := w) (f := fun i => cellD (at? r i))
      (ρ := [.imm c (picD w rs), t1, .imm false (.int j), .dead]) (P := fun ρ => ρ = [.imm c (picD w rs), t1, .imm false (.int j), .dead]) rfl fun i ρ hi eρ => by
        subst eρ
        have q := cell_in_ok hr'.2 i
        refine ⟨_, _, .imm false (cellD (at? r i)), [.imm c (picD w rs), t1, .imm false (.int j), .imm false (.int i)], by rw [Int.zero_add]; rfl, rfl, ?_, rfl, rfl⟩
        clear hr
        unfold picD
        walk_at "ev*"
    rw [e, h2, ← hr'.1, row_range]
  obtain ⟨ρ', e, t2, h2⟩ := forL_range (dg := dgName 2) (body := bd_rows_of_1) (b := false) (lo := 0) (n := rs.length) (ρ := [.imm c (picD w rs), .lstI [], .dead, .dead])
    (P := fun j ρ => ∃ t2, ρ = [.imm c (picD w rs), .lstI ((rs.take j).map rowD), t2, .dead] ∨ (j = 0 ∧ ρ = [.imm c (picD w rs), .lstI [], .dead, .dead])) ⟨.dead, .inr ⟨rfl, rfl⟩⟩ fun j ρ hj ⟨t2, eρ⟩ => by
      obtain ⟨r, hr⟩ : ∃ r, rs[j]? = some r := ⟨_, List.getElem?_eq_getElem hj⟩
      have et : rs.take (j + 1) = rs.take j ++ [r] := by rw [List.take_succ, hr]; rfl
      have la : ((rs.take j).map rowD).length < 16777216 := by simp; omega
      rw [et, List.map_append]
      refine ⟨_, [.imm c (picD w rs), .lstI ((rs.take j).map rowD ++ [D.lst (r.map cellD)]), .imm false (.int j), .dead], by rw [Int.zero_add]; rfl, .inl ?_, _, .inl rfl⟩
      rcases eρ with rfl | ⟨j0, rfl⟩
      · have q := comp j r (.lstI ((rs.take j).map rowD)) hr
        clear comp hr et
        generalize (rs.take j).map rowD = A at *
        unfold bd_rows_of_1
        unfold picD at *
        walk_at "ev*"
      · have q := comp j r (.lstI []) hr
        have e0 : rs.take j = [] := by rw [j0]; rfl
        rw [e0]
        clear comp hr et la j0 e0
        rw [List.map_nil, List.nil_append]
        unfold bd_rows_of_1
        unfold picD at *
        walk_at "ev*"
  have h3 : ρ' = [.imm c (picD w rs), .lstI (rs.map rowD), t2, .dead] := by
    rw [List.take_length] at h2
    rcases h2 with h2 | ⟨h0, _⟩
    · exact h2
    · have := R.h1
      have := R.len
      omega
  subst h3
  clear comp h2
  unfold F_rows_of den_rows_of
  unfold picD at *
  walk_at "ev*"
open SX (S S_len S_cat S_inj)
theorem lit_dot : ("." : PySem.Str) = S [46] := by decide +kernel
theorem lit_slash : ("/" : PySem.Str) = S [47] := by decide +kernel
def sgc : Cell → Nat
  | none => 46
  | some n => sg n
def isS (c : Nat) : Bool := decide (c = 46) || decide (c ∈ sg16)
def cellS (c : Nat) : Cell := if c = 46 then none else some (ix16 c)
theorem dot16 : (46 : Nat) ∉ sg16 := by decide
theorem cellS_ok {c : Nat} (h : isS c = true) : okc (cellS c) := by
  unfold cellS
  by_cases e : c = 46
  · rw [if_pos e]; exact okc_none
  · rw [if_neg e]
    unfold isS at h
    rw [decide_eq_false e, Bool.false_or, decide_eq_true_eq] at h
    exact (sg_ix h).2
theorem sgc_mem {x : Cell} (h : okc x) : isS (sgc x) = true ∧ cellS (sgc x) = x ∧ sgc x ≠ 47 := by
  cases x with
  | none => exact ⟨rfl, rfl, by decide⟩
  | some n =>
    have hn : n < 16 := h
    have e : sg n ≠ 46 := fun z => dot16 (z ▸ sg_mem hn)
    refine ⟨?_, ?_, ?_⟩
    · unfold isS
      rw [show sgc (some n) = sg n from rfl, decide_eq_true (sg_mem hn), Bool.or_true]
    · unfold cellS
      rw [show sgc (some n) = sg n from rfl, if_neg e, ix_sg hn]
    · exact (show ∀ i : Fin 16, sg i.val ≠ 47 by decide) ⟨n, hn⟩
/-- the text of rows -/
def txR (rs : List (List Cell)) : List Nat := TL.joinL [47] (rs.map fun r => r.map sgc)
theorem joinL_len (c : Nat) : ∀ ws : List (List Nat), (TL.joinL [c] ws).length ≤ (ws.map (·.length)).sum + ws.length
  | [] => by simp [TL.joinL]
  | [w] => by simp [TL.joinL]
  | w :: v :: ws => by
    have ih := joinL_len c (v :: ws)
    have e : TL.joinL [c] (w :: v :: ws) = w ++ [c] ++ TL.joinL [c] (v :: ws) := by first | rfl | simp [TL.joinL]
    rw [e]
    simp only [List.length_append, List.length_cons, List.length_nil, List.map_cons, List.sum_cons] at ih ⊢
    omega
theorem sum_len {ws : List (List Nat)} {w : Nat} (h : ∀ v ∈ ws, v.length ≤ w) : (ws.map (·.length)).sum ≤ ws.length * w := by
  induction ws with
  | nil => simp
  | cons v ws ih =>
    have h1 := h v (by simp)
    have h2 := ih fun v hv => h v (by simp [hv])
    simp only [List.map_cons, List.sum_cons, List.length_cons, Nat.add_mul, Nat.one_mul]
    omega
theorem txR_len {rs : List (List Cell)} {w h : Nat} (R : Rect rs w h) : (txR rs).length ≤ 64 * 64 + 64 := by
  have l64 : rs.length ≤ 64 := by rw [R.len]; exact R.h64
  have w64 := R.w64
  have a := joinL_len 47 (rs.map fun r => r.map sgc)
  have b := sum_len (ws := rs.map fun r => r.map sgc) (w := 64) fun v hv => by
    obtain ⟨r, hr, rfl⟩ := List.mem_map.mp hv
    rw [List.length_map, (R.row r hr).1]
    exact w64
  rw [List.length_map] at a b
  unfold txR
  have : rs.length * 64 ≤ 64 * 64 := Nat.mul_le_mul_right _ l64
  omega
theorem sp_txR {rs : List (List Cell)} {w h : Nat} (R : Rect rs w h) : sp 47 (txR rs) = rs.map fun r => r.map sgc := by
  refine sp_join 47 _ (fun z => ?_) fun v hv x hx => ?_
  · have h1 := R.len
    have h2 := R.h1
    have : rs = [] := List.map_eq_nil_iff.mp z
    rw [this] at h1
    simp at h1
    omega
  · obtain ⟨r, hr, rfl⟩ := List.mem_map.mp hv
    obtain ⟨c, hc, rfl⟩ := List.mem_map.mp hx
    exact (sgc_mem ((R.row r hr).2 c hc)).2.2
/-- one sign -/
theorem cb_turn {c : Nat} (h : isS c = true) {t0 : T} {A : List D} (hA : A.length ≤ 100000) (t2 : T) : bd_cells_by_1 [t0, .lstI A, .imm false (sgD c)] = .next [t0, .lstI (A ++ [cellD (cellS c)]), .imm false (sgD c)] := by
  unfold isS at h
  have ld := lit_dot
  by_cases e : c = 46
  · subst e
    rw [show cellD (cellS 46) = .non from rfl]
    clear h
    have q : gEq (sgD 46) (.str (S [46])) = some (.bl true) := by
      show gEq (.str (S [46])) (.str (S [46])) = _
      rw [v_eq_S, decide_eq_true rfl]
    unfold bd_cells_by_1
    walk_at "ev*"
  · rw [decide_eq_false e, Bool.false_or, decide_eq_true_eq] at h
    have ec : cellD (cellS c) = .int (ix16 c : Nat) := by
      unfold cellS
      rw [if_neg e]; rfl
    rw [ec]
    have q : gEq (sgD c) (.str (S [46])) = some (.bl false) := by
      show gEq (.str (S [c])) (.str (S [46])) = _
      rw [v_eq_S, decide_eq_false fun z => e (List.cons.inj z).1]
    have q2 : gInT (sgD c) (.str (S sg16)) = some (.bl true) := by
      rw [v_inT_S, decide_eq_true h]
    have q3 := fun b ρ => v_index16 h b ρ
    have l16 := lit16
    clear ec e h
    generalize ix16 c = n at *
    generalize sgD c = d at *
    unfold bd_cells_by_1
    walk_at "ev*"
theorem cells_by_ok {a : List Nat} (hl : a.length ≤ 100000) (h : ∀ c ∈ a, isS c = true) (b : Bool) : F_cells_by [.imm b (.str (S a))] = .ok (.lstI ((a.map cellS).map cellD)) := by
  obtain ⟨ρ', e, t2, rfl⟩ := forL_take (f := sgD) (xs := a) (dg := dgName 2) (body := bd_cells_by_1) (b := false) (ρ := [.imm b (.str (S a)), .lstI [], .dead])
    (P := fun p ρ => ∃ t2, ρ = [.imm b (.str (S a)), .lstI ((p.map cellS).map cellD), t2]) ⟨_, rfl⟩ fun p q c ρ hp ⟨t2, eρ⟩ => by
      subst eρ
      have hl2 : p.length ≤ 100000 := by rw [hp] at hl; simp at hl; omega
      have e := cb_turn (h c (by rw [hp]; simp)) (t0 := .imm b (.str (S a))) (A := (p.map cellS).map cellD) (by simpa using hl2) t2
      refine ⟨_, _, rfl, .inl e, .imm false (sgD c), ?_⟩
      rw [List.map_append, List.map_append]; rfl
  have ha : a.length ≤ 16777216 := by omega
  clear h
  generalize (a.map cellS).map cellD = A at *
  unfold F_cells_by den_cells_by
  walk_at "ev*"
theorem row_sg {r : List Cell} : (r.map sgc).map sgD = r.map fun x => sgD (sgc x) := by rw [List.map_map]; rfl
theorem row_text_ok {r : List Cell} (hl : r.length ≤ 64) (h : ∀ c ∈ r, okc c) (b : Bool) : F_row_text [.imm b (rowD r)] = .ok (.imm false (txD (r.map sgc))) := by
  have ld := lit_dot
  have l16 := lit16
  have le := lit_empty
  obtain ⟨ρ', e, t1, rfl⟩ := compL_mapf (f := cellD) (g := fun x => sgD (sgc x)) (dg := dgName 1) (dt := dtYes) (de := dIfE (dtVal (d2 oIs (dVar 1) (dC .non))) (dC (.str ("." : PySem.Str))) (d2 fIx (dC (.str ("0123456789abcdef" : PySem.Str))) (dVar 1))) (own := [1]) (b := b) (P := fun ρ => ∃ t1, ρ = [.imm b (rowD r), t1])
    r [.imm b (rowD r), .dead] ⟨_, rfl⟩ fun x ρ hx ⟨t1, eρ⟩ => by
      subst eρ
      have ox := h x hx
      refine ⟨_, _, .imm false (sgD (sgc x)), [.imm b (rowD r), .imm b (cellD x)], rfl, rfl, ?_, rfl, _, rfl⟩
      cases x with
      | none =>
        rw [show sgD (sgc none) = .str (S [46]) from rfl, show cellD none = .non from rfl]
        clear h ox hx
        generalize rowD r = R at *
        walk_at "ev*"
      | some n =>
        have q : gIx false (.str (S sg16)) (n : Int) = some (.imm false (sgD (sg n))) := by
          rw [v_gIx_S (by decide), sg_at (show n < 16 from ox)]; rfl
        rw [show sgD (sgc (some n)) = sgD (sg n) from rfl, show cellD (some n) = .int (n : Nat) from rfl]
        clear h ox hx
        generalize rowD r = R at *
        generalize sgD (sg n) = s at *
        walk_at "ev*"
  rw [← row_sg] at e
  have hl2 : (r.map sgc).length ≤ 16777216 := by simp; omega
  have hj := fun b ρ => v_fJoin_sg (a := r.map sgc) (b := b) (ρ := ρ) hl2
  rw [ld, l16] at e
  clear h
  unfold rowD at *
  generalize (r.map sgc).map sgD = A at *
  generalize r.map sgc = B at *
  unfold txD
  unfold F_row_text den_row_text
  walk_at "ev*"
open SX (S S_len S_cat S_inj)
theorem txD_map {rs : List (List Cell)} : (rs.map fun r => r.map sgc).map txD = rs.map fun r => txD (r.map sgc) := by rw [List.map_map]; rfl
theorem join_tx {rs : List (List Cell)} {w h : Nat} (R : Rect rs w h) (b : Bool) (ρ : List T) : fJoin (S [47]) (.imm b (.lst (rs.map fun r => txD (r.map sgc)))) ρ = .ok (.imm false (txD (txR rs))) ρ := by
  have l64 : rs.length ≤ 64 := by rw [R.len]; exact R.h64
  rw [← txD_map, fJoin_S]
  · rfl
  · have b := sum_len (ws := rs.map fun r => r.map sgc) (w := 64) fun v hv => by
      obtain ⟨r, hr, rfl⟩ := List.mem_map.mp hv
      rw [List.length_map, (R.row r hr).1]
      exact R.w64
    rw [List.length_map] at b ⊢
    have : rs.length * 64 ≤ 64 * 64 := Nat.mul_le_mul_right _ l64
    simp only [List.length_cons, List.length_nil]
    omega
theorem drawing_of_ok {rs : List (List Cell)} {w h : Nat} (R : Rect rs w h) (b : Bool) : F_drawing_of [.imm b (picD w rs)] = .ok (.imm false (txD (txR rs))) := by
  have ls := lit_slash
  have ro := rows_of_ok R b
  have hj := fun b ρ => join_tx R b ρ
  obtain ⟨ρ', e, t1, rfl⟩ := compL_mapf (f := rowD) (g := fun r => txD (r.map sgc)) (dg := dgName 1) (dt := dtYes) (de := dFr (dCall F_row_text [] (dCons (dVar 1) dNil))) (own := [1]) (b := false) (P := fun ρ => ∃ t1, ρ = [.imm b (picD w rs), t1])
    rs [.imm b (picD w rs), .dead] ⟨_, rfl⟩ fun r ρ hr ⟨t1, eρ⟩ => by
      subst eρ
      have ha := R.row r hr
      have q := fun b => row_text_ok (r := r) (by rw [ha.1]; exact R.w64) ha.2 b
      refine ⟨_, _, .imm false (txD (r.map sgc)), [.imm b (picD w rs), .imm false (rowD r)], rfl, rfl, ?_, rfl, _, rfl⟩
      clear ha hr hj ro
      generalize txD (r.map sgc) = X at *
      generalize rowD r = Y at *
      generalize picD w rs = P at *
      walk_at "ev*"
  clear R
  generalize (rs.map fun r => txD (r.map sgc)) = X at *
  generalize txD (txR rs) = Y at *
  generalize rs.map rowD = Z at *
  generalize picD w rs = P at *
  unfold F_drawing_of den_drawing_of
  walk_at "ev*"
/-! what makes no picture -/
open SX (S S_len S_cat S_inj)
/-- words that draw a picture -/
structure GdW (ws : List (List Nat)) : Prop where
  sg : ∀ w ∈ ws, ∀ c ∈ w, isS c = true
  n : ws.length ≤ 64
  w1 : 1 ≤ (ws.headD []).length
  w2 : (ws.headD []).length ≤ 64
  al : ∀ w ∈ ws, w.length = (ws.headD []).length
def rowsW (ws : List (List Nat)) : List (List Cell) := ws.map fun w => w.map cellS
theorem GdW.rect {ws : List (List Nat)} (g : GdW ws) : Rect (rowsW ws) (ws.headD []).length ws.length where
  len := by simp [rowsW]
  row := fun r hr => by
    obtain ⟨w, hw, rfl⟩ := List.mem_map.mp hr
    refine ⟨by rw [List.length_map]; exact g.al w hw, fun c hc => ?_⟩
    obtain ⟨x, hx, rfl⟩ := List.mem_map.mp hc
    exact cellS_ok (g.sg w hw x hx)
  w1 := g.w1
  w64 := g.w2
  h64 := g.n
  h1 := by
    cases ws with
    | nil => have := g.w1; simp at this
    | cons w ws => simp
theorem rows_lst (ws : List (List Nat)) : (ws.map fun w => rowD (w.map cellS)) = (rowsW ws).map rowD := by
  unfold rowsW
  rw [List.map_map]; rfl
theorem read_ok {a : List Nat} (hl : a.length ≤ 100000) (g : GdW (sp 47 a)) (b : Bool) : F_read_drawing [.imm b (.str (S a))] = .ok (.imm false (picD ((sp 47 a).headD []).length (rowsW (sp 47 a)))) := by
  have ls := lit_slash
  have R := g.rect
  have pk := fun b => pictured_ok R b
  obtain ⟨ρ', e, t1, rfl⟩ := compL_mapf (f := txD) (g := fun w => rowD (w.map cellS)) (dg := dgName 2) (dt := dtYes) (de := dFr (dCall F_cells_by [] (dCons (dVar 2) dNil))) (own := [2]) (b := false) (P := fun ρ => ∃ t1, ρ = [.imm b (.str (S a)), .dead, t1, .dead])
    (sp 47 a) [.imm b (.str (S a)), .dead, .dead, .dead] ⟨_, rfl⟩ fun w ρ hw ⟨t1, eρ⟩ => by
      subst eρ
      have q := fun b => cells_by_ok (a := w) (by have := (sp_word 47 a w hw).1; omega) (g.sg w hw) b
      refine ⟨_, _, .imm false (rowD (w.map cellS)), [.imm b (.str (S a)), .dead, .imm false (txD w), .dead], rfl, rfl, ?_, rfl, _, rfl⟩
      unfold rowD
      unfold txD
      clear hw g R pk
      generalize (w.map cellS).map cellD = A at *
      walk_at "ev*"
  rw [rows_lst] at e
  have e := compLX_of_ok e
  have hs := fun b ρ => v_fSplit_S (c := 47) (a := a) (b := b) (ρ := ρ) (by omega) (by omega)
  have hp : (picD ((sp 47 a).headD []).length (rowsW (sp 47 a))).isNon = false := rfl
  clear g R
  unfold rowsD at pk
  generalize picD ((sp 47 a).headD []).length (rowsW (sp 47 a)) = P at *
  generalize (rowsW (sp 47 a)).map rowD = A at *
  generalize (sp 47 a).map txD = Z at *
  unfold F_read_drawing den_read_drawing
  walk_at "ev*"
open SX (S S_len S_cat S_inj)
theorem joinL_all {P : Nat → Prop} (c : Nat) (hc : P c) : ∀ ws : List (List Nat), (∀ w ∈ ws, ∀ x ∈ w, P x) → ∀ x ∈ TL.joinL [c] ws, P x
  | [], _, x, hx => by simp [TL.joinL] at hx
  | [w], h, x, hx => h w (by simp) x (by simpa [TL.joinL] using hx)
  | w :: v :: ws, h, x, hx => by
    have e : TL.joinL [c] (w :: v :: ws) = w ++ [c] ++ TL.joinL [c] (v :: ws) := by first | rfl | simp [TL.joinL]
    rw [e] at hx
    rcases List.mem_append.mp hx with hx | hx
    · rcases List.mem_append.mp hx with hx | hx
      · exact h w (by simp) x hx
      · rw [List.mem_singleton.mp hx]; exact hc
    · exact joinL_all c hc (v :: ws) (fun w hw => h w (by simp [hw])) x hx
theorem gd_txR {rs : List (List Cell)} {w h : Nat} (R : Rect rs w h) : GdW (sp 47 (txR rs)) ∧ rowsW (sp 47 (txR rs)) = rs ∧ ((sp 47 (txR rs)).headD []).length = w := by
  rw [sp_txR R]
  have l64 : rs.length ≤ 64 := by rw [R.len]; exact R.h64
  have al : ∀ v ∈ rs.map (fun r => r.map sgc), v.length = w := fun v hv => by
    obtain ⟨r, hr, rfl⟩ := List.mem_map.mp hv
    rw [List.length_map]; exact (R.row r hr).1
  have hd : ((rs.map fun r => r.map sgc).headD []).length = w := by
    cases hq : rs with
    | nil =>
      have h1 := R.len
      have h2 := R.h1
      rw [hq] at h1
      simp at h1
      omega
    | cons r rs =>
      rw [hq] at al
      exact al (r.map sgc) (by simp)
  refine ⟨{ sg := fun v hv c hc => ?_, n := by simpa using l64, w1 := by rw [hd]; exact R.w1, w2 := by rw [hd]; exact R.w64, al := fun v hv => by rw [hd]; exact al v hv }, ?_, hd⟩
  · obtain ⟨r, hr, rfl⟩ := List.mem_map.mp hv
    obtain ⟨x, hx, rfl⟩ := List.mem_map.mp hc
    exact (sgc_mem ((R.row r hr).2 x hx)).1
  · unfold rowsW
    rw [List.map_map]
    refine (List.map_congr_left fun r hr => ?_).trans (List.map_id _)
    show (r.map sgc).map cellS = r
    rw [List.map_map]
    refine (List.map_congr_left fun x hx => ?_).trans (List.map_id _)
    exact (sgc_mem ((R.row r hr).2 x hx)).2.1
theorem picture_ok {rs : List (List Cell)} {w h : Nat} (R : Rect rs w h) : F_L_picture [.imm false (rowsD rs)] = .ok (.imm false (picD w rs)) := by
  have w64 := R.w64
  have inner : ∀ (r : List Cell) (t1 t2 t6 : T), r.length = w → (∀ c ∈ r, okc c) → ∃ t6', forL (dgName 6) bd_L_picture_1 false (rangeD 0 w) [.imm false (rowsD rs), t1, t2, .imm false (rowD r), .imm false (.int 0), .imm false (.int 0), t6] =
      .next [.imm false (rowsD rs), t1, t2, .imm false (rowD r), .imm false (.int (pnt r)), .imm false (.int (msk r)), t6'] := by
    intro r t1 t2 t6 hr hok
    obtain ⟨ρ', e, t6', h2⟩ := forL_range (dg := dgName 6) (body := bd_L_picture_1) (b := false) (lo := 0) (n := w) (ρ := [.imm false (rowsD rs), t1, t2, .imm false (rowD r), .imm false (.int 0), .imm false (.int 0), t6])
      (P := fun i ρ => ∃ t6, ρ = [.imm false (rowsD rs), t1, t2, .imm false (rowD r), .imm false (.int (pnt (r.take i))), .imm false (.int (msk (r.take i))), t6]) ⟨t6, rfl⟩ fun i ρ hi ⟨t6, eρ⟩ => by
        subst eρ
        rw [show (0 : Int) + (i : Int) = (i : Int) by omega]
        obtain ⟨x, hx⟩ : ∃ x, r[i]? = some x := ⟨_, List.getElem?_eq_getElem (by omega)⟩
        have et : r.take (i + 1) = r.take i ++ [x] := by rw [List.take_succ, hx]; rfl
        have ll : (r.take i).length = i := by rw [List.length_take]; omega
        have hg := gIx_row (c := false) hx
        have ex : L2.atI (r.map cellD) (i : Int) = some (cellD x) := atI_nat (by rw [List.getElem?_map, hx]; rfl)
        rw [et, pnt_snoc, msk_snoc, ll]
        generalize pnt (r.take i) = p at *
        generalize msk (r.take i) = m at *
        have x16 : okc x := hok x (List.mem_of_getElem? hx)
        cases x with
        | none =>
          refine ⟨_, [.imm false (rowsD rs), t1, t2, .imm false (rowD r), .imm false (.int p), .imm false (.int m), .imm false (.int i)], rfl, .inl ?_, .imm false (.int i), by simp [clr]⟩
          unfold rowD
          replace ex : L2.atI (r.map cellD) (i : Int) = some .non := ex
          generalize rowsD rs = U at *
          generalize r.map cellD = V at *
          clear et hx hg hok
          unfold bd_L_picture_1
          walk_at "ev*"
        | some n =>
          have n16 : n < 16 := x16
          refine ⟨_, [.imm false (rowsD rs), t1, t2, .imm false (rowD r), .imm false (.int (p + (n : Int) * 2 ^ (4 * (i : Int)).toNat)), .imm false (.int (m + 1 * 2 ^ i)), .imm false (.int i)], rfl, .inl ?_, .imm false (.int i), ?_⟩
          · unfold rowD
            replace ex : L2.atI (r.map cellD) (i : Int) = some (.int n) := ex
            generalize rowsD rs = U at *
            generalize r.map cellD = V at *
            clear et hx hg hok x16
            unfold bd_L_picture_1
            walk_at "ev*"
          · rw [show (4 * (i : Int)).toNat = 4 * i by omega]
            simp [clr, Int.mul_comm]
    subst h2
    have ew : r.take w = r := by rw [← hr]; exact List.take_length
    rw [ew] at e
    exact ⟨t6', e⟩
  obtain ⟨ρ', e, t3, t4, t5, t6, h2⟩ := forL_take (f := rowD) (xs := rs) (dg := dgName 3) (body := bd_L_picture_2) (b := false) (ρ := [.imm false (rowsD rs), .lstI [], .lstI [], .dead, .dead, .dead, .dead])
    (P := fun l ρ => ∃ t3 t4 t5 t6, ρ = [.imm false (rowsD rs), .lstI (l.map fun r => .int (pnt r)), .lstI (l.map fun r => .int (msk r)), t3, t4, t5, t6]) ⟨_, _, _, _, rfl⟩ fun l q a ρ hl ⟨t3, t4, t5, t6, eρ⟩ => by
      subst eρ
      have ha := R.row a (by rw [hl]; simp)
      have hll : l.length ≤ 64 := by
        have h1 := R.len
        have h2 := R.h64
        rw [hl] at h1
        simp at h1
        omega
      obtain ⟨t6', ei⟩ := inner a (.lstI (l.map fun r => .int (pnt r))) (.lstI (l.map fun r => .int (msk r))) t6 ha.1 ha.2
      have hw : (a.map cellD).length = w := by simpa using ha.1
      have hw64 : (a.map cellD).length ≤ 64 := by omega
      have l1 : (l.map fun r => D.int (pnt r)).length ≤ 64 := by simpa using hll
      have l2 : (l.map fun r => D.int (msk r)).length ≤ 64 := by simpa using hll
      rw [← hw] at ei
      refine ⟨_, [.imm false (rowsD rs), .lstI ((l.map fun r => .int (pnt r)) ++ [.int (pnt a)]), .lstI ((l.map fun r => .int (msk r)) ++ [.int (msk a)]), .imm false (rowD a), .imm false (.int (pnt a)), .imm false (.int (msk a)), t6'], rfl, .inl ?_, .imm false (rowD a), .imm false (.int (pnt a)), .imm false (.int (msk a)), t6', by simp⟩
      unfold rowD at *
      generalize rowsD rs = U at *
      generalize a.map cellD = V at *
      generalize (l.map fun r => D.int (pnt r)) = A at *
      generalize (l.map fun r => D.int (msk r)) = B at *
      clear hl inner ha R hw
      unfold bd_L_picture_2
      walk_at "ev*"
  subst h2
  obtain ⟨r0, hr0⟩ : ∃ r0, rs[0]? = some r0 := ⟨_, List.getElem?_eq_getElem (by have := R.h1; have := R.len; omega)⟩
  have i0 : L2.atI (rs.map rowD) 0 = some (rowD r0) := by
    have := atI_nat (xs := rs.map rowD) (j := 0) (v := rowD r0) (by rw [List.getElem?_map, hr0]; rfl)
    simpa using this
  have hw0 : ((r0.map cellD).length : Int) = w := by
    have := (R.row r0 (List.mem_of_getElem? hr0)).1
    simp [this]
  have hh : ((rs.map rowD).length : Int) = rs.length := by simp
  unfold picD
  unfold rowsD at *
  replace i0 : L2.atI (rs.map rowD) 0 = some (.lst (r0.map cellD)) := i0
  generalize rs.map rowD = V at *
  generalize (rs.map fun r => D.int (pnt r)) = A at *
  generalize (rs.map fun r => D.int (msk r)) = B at *
  generalize r0.map cellD = Z at *
  clear inner R hr0
  unfold F_L_picture den_L_picture
  walk_at "ev*"
theorem place_ok {z k : Int} (h1 : 0 ≤ k) (h2 : k ≤ 100000) : ∃ r, -1000000000 ≤ r ∧ r ≤ 1000000000 ∧ ∀ c1 c2, F_L_place [.imm c1 (.int z), .imm c2 (.int k)] = .ok (.imm false (.int r)) := by
  obtain ⟨a, a0, a1, ea⟩ := @pick_ok z k 12 h1 (by omega) (by omega)
  obtain ⟨b, b0, b1, eb⟩ := @pick_ok z (k + 1) 4 (by omega) (by omega) (by omega)
  obtain ⟨c, c0, c1, ec⟩ := @pick_ok z (k + 1) 9 (by omega) (by omega) (by omega)
  by_cases ha : a = 5
  · subst ha
    have cb : b = 0 ∨ b = 1 ∨ b = 2 ∨ b = 3 := by omega
    rcases cb with rfl | rfl | rfl | rfl
    · refine ⟨1000000000, by omega, by omega, fun c1 c2 => ?_⟩
      unfold F_L_place den_L_place
      walk_at "ev*"
    · refine ⟨-1000000000, by omega, by omega, fun c1 c2 => ?_⟩
      unfold F_L_place den_L_place
      walk_at "ev*"
    · refine ⟨64, by omega, by omega, fun c1 c2 => ?_⟩
      unfold F_L_place den_L_place
      walk_at "ev*"
    · refine ⟨-64, by omega, by omega, fun c1 c2 => ?_⟩
      unfold F_L_place den_L_place
      walk_at "ev*"
  · refine ⟨c - 3, by omega, by omega, fun c1 c2 => ?_⟩
    unfold F_L_place den_L_place
    walk_at "ev*"
theorem pic_by_ok (z : Int) (c0 : Bool) : ∃ X : Pc, X.G ∧ X.w ≤ 20 ∧ X.h ≤ 6 ∧ F_L_pic_by [.imm c0 (.int z)] = .ok (.imm false (picD X.w X.rs)) := by
  obtain ⟨a, a0, a1, ea⟩ := @pick_ok z 2 6 (by omega) (by omega) (by omega)
  obtain ⟨b, b0, b1, eb⟩ := @pick_ok z 3 6 (by omega) (by omega) (by omega)
  obtain ⟨d, d0, d1, ed⟩ := @pick_ok z 4 24 (by omega) (by omega) (by omega)
  obtain ⟨w, hw⟩ : ∃ w : Nat, (w : Int) = if d = 3 then 20 else 1 + a := ⟨(if d = 3 then 20 else 1 + a : Int).toNat, by split <;> omega⟩
  have w1 : 1 ≤ w := by split at hw <;> omega
  have w2 : w ≤ 20 := by split at hw <;> omega
  obtain ⟨h, hh⟩ : ∃ h : Nat, (h : Int) = 1 + b := ⟨(1 + b).toNat, by omega⟩
  have row : ∀ (y : Nat) (A : List D), y < h → ∃ r : List Cell, r.length = w ∧ (∀ c ∈ r, okc c) ∧ ∀ t5 : T, A.length ≤ 100 →
      bd_L_pic_by_1 [.imm c0 (.int z), .imm false (.int w), .imm false (.int h), .lstI A, .imm false (.int y), t5, .dead, .dead] =
      .next [.imm c0 (.int z), .imm false (.int w), .imm false (.int h), .lstI (A ++ [rowD r]), .imm false (.int y), .dead, .dead, .dead] ∨
      ∃ t, bd_L_pic_by_1 [.imm c0 (.int z), .imm false (.int w), .imm false (.int h), .lstI A, .imm false (.int y), t5, .dead, .dead] =
      .next [.imm c0 (.int z), .imm false (.int w), .imm false (.int h), .lstI (A ++ [rowD r]), .imm false (.int y), t, .dead, .dead] := by
    intro y A hy
    have hs : ∀ i : Nat, ∃ n : Nat, i < w → ∀ c1 c2 c3, F_L_pick [.imm c1 (.int z), .imm c2 (.int (90 + 20 * (y : Int) + (i : Int))), .imm c3 (.int 24)] = .ok (.imm false (.int (n : Nat))) := fun i => by
      by_cases hi : i < w
      · obtain ⟨r, r0, r1, er⟩ := @pick_ok z (90 + 20 * (y : Int) + (i : Int)) 24 (by omega) (by omega) (by omega)
        obtain ⟨n, rfl⟩ := Int.eq_ofNat_of_zero_le r0
        exact ⟨n, fun _ => er⟩
      · exact ⟨0, fun q => absurd q hi⟩
    obtain ⟨f, hf⟩ := Classical.axiomOfChoice hs
    have comp1 : ∀ t5, compL (dgName 6) dtYes (dFr (dCall F_L_pick [] (dCons (dVar 0) (dCons (d2 fAdd (d2 fAdd (dC (.int 90)) (dFr (d2 fMul (dC (.int 20)) (dVar 4)))) (dVar 6)) (dCons (dC (.int 24)) dNil))))) [6] false (rangeD 0 w) [.imm c0 (.int z), .imm false (.int w), .imm false (.int h), .lstI A, .imm false (.int y), t5, .dead, .dead] =
        .ok (((List.range w).map f).map fun n : Nat => D.int (n : Nat)) [.imm c0 (.int z), .imm false (.int w), .imm false (.int h), .lstI A, .imm false (.int y), t5, .dead, .dead] := fun t5 => by
      obtain ⟨ρ', e, h2⟩ := compL_range (dg := dgName 6) (dt := dtYes) (de := dFr (dCall F_L_pick [] (dCons (dVar 0) (dCons (d2 fAdd (d2 fAdd (dC (.int 90)) (dFr (d2 fMul (dC (.int 20)) (dVar 4)))) (dVar 6)) (dCons (dC (.int 24)) dNil))))) (own := [6]) (b := false) (lo := 0) (n := w) (f := fun i => D.int (f i : Nat))
        (ρ := [.imm c0 (.int z), .imm false (.int w), .imm false (.int h), .lstI A, .imm false (.int y), t5, .dead, .dead]) (P := fun ρ => ρ = [.imm c0 (.int z), .imm false (.int w), .imm false (.int h), .lstI A, .imm false (.int y), t5, .dead, .dead]) rfl fun i ρ hi eρ => by
          subst eρ
          have q := hf i hi
          refine ⟨_, _, .imm false (.int (f i : Nat)), [.imm c0 (.int z), .imm false (.int w), .imm false (.int h), .lstI A, .imm false (.int y), t5, .imm false (.int (i : Nat)), .dead], by rw [Int.zero_add]; rfl, rfl, ?_, rfl, rfl⟩
          clear hf hs hw hh
          generalize f i = n at *
          walk_at "ev*"
      rw [e, h2, List.map_map]; rfl
    have comp2 : compL (dgName 7) dtYes (dFr (dIfE (dtVal (d2 oGt (dVar 7) (dC (.int 15)))) (dC .non) (dVar 7))) [7] false (((List.range w).map f).map fun n : Nat => D.int (n : Nat)) [.imm c0 (.int z), .imm false (.int w), .imm false (.int h), .lstI A, .imm false (.int y), .imm false (.lst (((List.range w).map f).map fun n : Nat => D.int (n : Nat))), .dead, .dead] =
        .ok (((List.range w).map f).map fun n : Nat => cellD (if n ≤ 15 then some n else none)) [.imm c0 (.int z), .imm false (.int w), .imm false (.int h), .lstI A, .imm false (.int y), .imm false (.lst (((List.range w).map f).map fun n : Nat => D.int (n : Nat))), .dead, .dead] := by
      obtain ⟨ρ', e, h2⟩ := compL_mapf (f := fun n : Nat => D.int (n : Nat)) (g := fun n : Nat => cellD (if n ≤ 15 then some n else none)) (dg := dgName 7) (dt := dtYes) (de := dFr (dIfE (dtVal (d2 oGt (dVar 7) (dC (.int 15)))) (dC .non) (dVar 7))) (own := [7]) (b := false)
        (P := fun ρ => ρ = [.imm c0 (.int z), .imm false (.int w), .imm false (.int h), .lstI A, .imm false (.int y), .imm false (.lst (((List.range w).map f).map fun n : Nat => D.int (n : Nat))), .dead, .dead]) ((List.range w).map f) [.imm c0 (.int z), .imm false (.int w), .imm false (.int h), .lstI A, .imm false (.int y), .imm false (.lst (((List.range w).map f).map fun n : Nat => D.int (n : Nat))), .dead, .dead] rfl fun n ρ hn eρ => by
          subst eρ
          refine ⟨_, _, .imm false (cellD (if n ≤ 15 then some n else none)), [.imm c0 (.int z), .imm false (.int w), .imm false (.int h), .lstI A, .imm false (.int y), .imm false (.lst (((List.range w).map f).map fun n : Nat => D.int (n : Nat))), .dead, .imm false (.int (n : Nat))], rfl, rfl, ?_, rfl, rfl⟩
          clear hf hs hw hh hn comp1
          generalize (((List.range w).map f).map fun n : Nat => D.int (n : Nat)) = Z at *
          by_cases h15 : n ≤ 15
          · rw [if_pos h15]
            have q : ¬ (15 : Int) < (n : Int) := by omega
            clear h15
            unfold cellD
            walk_at "ev*"
          · rw [if_neg h15]
            have q : (15 : Int) < (n : Int) := by omega
            clear h15
            unfold cellD
            walk_at "ev*"
      rw [e, h2]
    refine ⟨((List.range w).map f).map fun n => if n ≤ 15 then some n else none, by simp, fun c hc => ?_, fun t5 hA => .inr ⟨.imm false (.lst (((List.range w).map f).map fun n : Nat => D.int (n : Nat))), ?_⟩⟩
    · obtain ⟨n, _, rfl⟩ := List.mem_map.mp hc
      by_cases h15 : n ≤ 15
      · rw [if_pos h15]; show n < 16; omega
      · rw [if_neg h15]; exact okc_none
    · have er : rowD (((List.range w).map f).map fun n => if n ≤ 15 then some n else none) = .lst (((List.range w).map f).map fun n : Nat => cellD (if n ≤ 15 then some n else none)) := by
        unfold rowD
        rw [List.map_map]; rfl
      rw [er]
      have c1 := comp1 t5
      have lz : (((List.range w).map f).map fun n : Nat => D.int (n : Nat)).length ≤ 64 := by simp; omega
      clear comp1 hf hs hw hh er
      generalize (((List.range w).map f).map fun n : Nat => cellD (if n ≤ 15 then some n else none)) = Y at *
      generalize (((List.range w).map f).map fun n : Nat => D.int (n : Nat)) = Z at *
      have wI : (w : Int) ≤ 20 := by omega
      unfold bd_L_pic_by_1
      walk_at "ev*"
  obtain ⟨ρ', e, rs, hrs, hok, t4, t5, rfl⟩ := forL_range (dg := dgName 4) (body := bd_L_pic_by_1) (b := false) (lo := 0) (n := h) (ρ := [.imm c0 (.int z), .imm false (.int w), .imm false (.int h), .lstI [], .dead, .dead, .dead, .dead])
    (P := fun i ρ => ∃ rs : List (List Cell), rs.length = i ∧ (∀ r ∈ rs, r.length = w ∧ ∀ c ∈ r, okc c) ∧ ∃ t4 t5, ρ = [.imm c0 (.int z), .imm false (.int w), .imm false (.int h), .lstI (rs.map rowD), t4, t5, .dead, .dead])
    ⟨[], rfl, fun c hc => by simp at hc, _, _, rfl⟩ fun i ρ hi ⟨rs, hrs, hok, t4, t5, eρ⟩ => by
      subst eρ
      obtain ⟨r, hr, hc, e⟩ := row i (rs.map rowD) hi
      have hl : (rs.map rowD).length ≤ 100 := by simp; omega
      obtain ⟨t, et⟩ : ∃ t, bd_L_pic_by_1 [.imm c0 (.int z), .imm false (.int w), .imm false (.int h), .lstI (rs.map rowD), .imm false (.int i), t5, .dead, .dead] = .next [.imm c0 (.int z), .imm false (.int w), .imm false (.int h), .lstI (rs.map rowD ++ [rowD r]), .imm false (.int i), t, .dead, .dead] := by
        rcases e t5 hl with e | e
        · exact ⟨_, e⟩
        · exact e
      refine ⟨_, _, by rw [Int.zero_add]; rfl, .inl et, rs ++ [r], by simp [hrs], fun c hc' => ?_, _, _, by rw [List.map_append]; rfl⟩
      rcases List.mem_append.mp hc' with hc' | hc'
      · exact hok c hc'
      · rw [List.mem_singleton.mp hc']; exact ⟨hr, hc⟩
  have R : Rect rs w h := ⟨hrs, hok, by omega, w1, by omega, by omega⟩
  have ep := picture_ok R
  unfold rowsD at ep
  refine ⟨⟨rs, w, h⟩, R, w2, by show h ≤ 6; omega, ?_⟩
  show _ = FR.ok (.imm false (picD w rs))
  clear row R hrs hok
  generalize picD w rs = P at *
  generalize rs.map rowD = A at *
  by_cases hd : d = 3
  · rw [if_pos hd] at hw
    subst hd
    rw [hw, hh, show h = (1 + b).toNat by omega] at e
    clear hw hh
    unfold F_L_pic_by den_L_pic_by
    walk_at "ev*"
  · rw [if_neg hd] at hw
    rw [hw, hh, show h = (1 + b).toNat by omega] at e
    clear hw hh
    unfold F_L_pic_by den_L_pic_by
    walk_at "ev*"
theorem i9 {n : Nat} (h : n < 2 ^ 256) : (D.int (n : Nat)).sm9 = true := by
  show decide (((n : Nat) : Int).natAbs < 10 ^ 90) = true
  rw [decide_eq_true_eq, Int.natAbs_natCast]
  exact Nat.lt_trans h (by decide)
theorem j9 {i : Int} (h1 : -2000000000 ≤ i) (h2 : i ≤ 2000000000) : (D.int i).sm9 = true := by
  show decide (i.natAbs < 10 ^ 90) = true
  rw [decide_eq_true_eq]
  exact Nat.lt_of_le_of_lt (show i.natAbs ≤ 2000000000 by omega) (by decide)
theorem pic_s9 {rs : List (List Cell)} {w h : Nat} (R : Rect rs w h) : (picD w rs).sm9 = true ∧ (picD w rs).dp ≤ 2 ∧ (picD w rs).bk ≤ 200 := by
  have l64 : rs.length ≤ 64 := by rw [R.len]; exact R.h64
  have w64 := R.w64
  have a1 : ∀ d ∈ (rs.map fun r => D.int (pnt r)), d.sm9 = true ∧ d.dp ≤ 0 ∧ d.bk ≤ 0 := fun d hd => by
    obtain ⟨r, hr, rfl⟩ := List.mem_map.mp hd
    exact ⟨i9 (pnt_lt (w := 64) (R.row r hr).2 (by rw [(R.row r hr).1]; exact w64)), Nat.le_refl _, Nat.le_refl _⟩
  have a2 : ∀ d ∈ (rs.map fun r => D.int (msk r)), d.sm9 = true ∧ d.dp ≤ 0 ∧ d.bk ≤ 0 := fun d hd => by
    obtain ⟨r, hr, rfl⟩ := List.mem_map.mp hd
    exact ⟨i9 (Nat.lt_trans (msk_lt (w := 64) (by rw [(R.row r hr).1]; exact w64)) (by decide)), Nat.le_refl _, Nat.le_refl _⟩
  have b1 := bks_le fun d hd => (a1 d hd).2.2
  have b2 := bks_le fun d hd => (a2 d hd).2.2
  rw [List.length_map] at b1 b2
  have d1 := dps_le fun d hd => (a1 d hd).2.1
  have d2 := dps_le fun d hd => (a2 d hd).2.1
  have s1 := sm9s_of fun d hd => (a1 d hd).1
  have s2 := sm9s_of fun d hd => (a2 d hd).1
  refine ⟨?_, ?_, ?_⟩
  · show ((D.int (w : Nat)).sm9 && ((D.int (rs.length : Nat)).sm9 && (D.sm9s (rs.map fun r => D.int (pnt r)) && (D.sm9s (rs.map fun r => D.int (msk r)) && true)))) = true
    rw [s1, s2, i9 (Nat.lt_of_le_of_lt w64 (by decide)), i9 (Nat.lt_of_le_of_lt l64 (by decide))]; rfl
  · show max 0 (max 0 (max (D.dps (rs.map fun r => D.int (pnt r)) + 1) (max (D.dps (rs.map fun r => D.int (msk r)) + 1) 0))) + 1 ≤ 2
    omega
  · show 0 + 1 + (0 + 1 + (D.bks (rs.map fun r => D.int (pnt r)) + 1 + (D.bks (rs.map fun r => D.int (msk r)) + 1 + 0))) ≤ 200
    omega
/-! scenes as the tuples that tell them -/
mutual
inductive Sc where
  | still (X : Pc)
  | turn (p : Nat) (s : Sc)
  | pane (x y : Int) (w h : Nat) (s : Sc)
  | pile (w h : Nat) (ps : Sps)
inductive Sps where
  | nil
  | cons (rk x y dx dy : Int) (s : Sc) (ps : Sps)
end
structure Prt where
  rk : Int
  x : Int
  y : Int
  dx : Int
  dy : Int
  s : Sc
def Sps.toL : Sps → List Prt
  | .nil => []
  | .cons rk x y dx dy s ps => ⟨rk, x, y, dx, dy, s⟩ :: ps.toL
def Sps.len : Sps → Nat
  | .nil => 0
  | .cons _ _ _ _ _ _ ps => ps.len + 1
def Sc.sz : Sc → Nat × Nat
  | .still X => (X.w, X.h)
  | .turn p s => if p % 2 = 1 then (s.sz.2, s.sz.1) else (s.sz.1, s.sz.2)
  | .pane _ _ w h _ => (w, h)
  | .pile w h _ => (w, h)
theorem len_eq : ∀ ps : Sps, ps.toL.length = ps.len
  | .nil => by unfold Sps.len Sps.toL; rfl
  | .cons rk x y dx dy s ps => by
    unfold Sps.len Sps.toL
    rw [List.length_cons, len_eq ps]
mutual
def Sc.sc : Sc → D
  | .still X => .tup [.str ("still" : PySem.Str), picD X.w X.rs]
  | .turn p s => .tup [.str ("turn" : PySem.Str), .int (p : Nat), s.sc]
  | .pane x y w h s => .tup [.str ("pane" : PySem.Str), .int x, .int y, .int (w : Nat), .int (h : Nat), s.sc]
  | .pile w h ps => .tup [.str ("pile" : PySem.Str), .int (w : Nat), .int (h : Nat), .tup ps.scs]
def Sps.scs : Sps → List D
  | .nil => []
  | .cons rk x y dx dy s ps => .tup [.int rk, .int x, .int y, .int dx, .int dy, s.sc] :: ps.scs
end
def Prt.sc (q : Prt) : D := .tup [.int q.rk, .int q.x, .int q.y, .int q.dx, .int q.dy, q.s.sc]
theorem scs_eq : ∀ ps : Sps, ps.scs = ps.toL.map Prt.sc
  | .nil => by unfold Sps.scs Sps.toL; rfl
  | .cons rk x y dx dy s ps => by
    unfold Sps.scs Sps.toL
    rw [List.map_cons, ← scs_eq ps]; rfl
mutual
def Sc.n : Sc → Nat
  | .still _ => 0
  | .turn _ s => s.n + 1
  | .pane _ _ _ _ s => s.n + 1
  | .pile _ _ ps => ps.n + 2
def Sps.n : Sps → Nat
  | .nil => 0
  | .cons _ _ _ _ _ s ps => max s.n ps.n
end
mutual
/-- how many scenes there are in it -/
def Sc.m : Sc → Nat
  | .still _ => 1
  | .turn _ s => s.m + 1
  | .pane _ _ _ _ s => s.m + 1
  | .pile _ _ ps => ps.m + 1
def Sps.m : Sps → Nat
  | .nil => 0
  | .cons _ _ _ _ _ s ps => s.m + ps.m
end
mutual
/-- how many of them are no stills -/
def Sc.q : Sc → Nat
  | .still _ => 0
  | .turn _ s => s.q + 1
  | .pane _ _ _ _ s => s.q + 1
  | .pile _ _ ps => ps.q + 1
def Sps.q : Sps → Nat
  | .nil => 0
  | .cons _ _ _ _ _ s ps => s.q + ps.q
end
/-- bounds of a part's numbers -/
def bds (rk x y dx dy : Int) : Prop := (-1000000000 ≤ rk ∧ rk ≤ 1000000000) ∧ (-1000000000 ≤ x ∧ x ≤ 1000000000) ∧ (-1000000000 ≤ y ∧ y ≤ 1000000000) ∧ (-1000000000 ≤ dx ∧ dx ≤ 1000000000) ∧ (-1000000000 ≤ dy ∧ dy ≤ 1000000000)
mutual
/-- a scene of the right form -/
def Sc.ok0 : Sc → Prop
  | .still X => X.G
  | .turn p s => p < 8 ∧ s.ok0
  | .pane x y w h s => (-1000000000 ≤ x ∧ x ≤ 1000000000 ∧ -1000000000 ≤ y ∧ y ≤ 1000000000) ∧ (1 ≤ w ∧ w ≤ 64 ∧ 1 ≤ h ∧ h ≤ 64) ∧ s.ok0
  | .pile w h ps => (1 ≤ w ∧ w ≤ 64 ∧ 1 ≤ h ∧ h ≤ 64) ∧ ps.len ≤ 60 ∧ ps.ok0
def Sps.ok0 : Sps → Prop
  | .nil => True
  | .cons rk x y dx dy s ps => bds rk x y dx dy ∧ s.ok0 ∧ ps.ok0
end
def Prt.ok0 (q : Prt) : Prop := bds q.rk q.x q.y q.dx q.dy ∧ q.s.ok0
/-- the part lies in its pile if it goes -/
def lies (W H : Nat) (x y dx dy : Int) (s : Sc) : Prop := (dx ≠ 0 ∨ dy ≠ 0) → (0 ≤ x ∧ x ≤ (W : Int) - (s.sz.1 : Int)) ∧ (0 ≤ y ∧ y ≤ (H : Int) - (s.sz.2 : Int))
theorem Sc.ok0.sz : ∀ {s : Sc}, s.ok0 → 1 ≤ s.sz.1 ∧ s.sz.1 ≤ 64 ∧ 1 ≤ s.sz.2 ∧ s.sz.2 ≤ 64
  | .still X, h => by
    unfold Sc.ok0 at h
    have g : Rect X.rs X.w X.h := h
    unfold Sc.sz
    exact ⟨g.w1, g.w64, g.h1, g.h64⟩
  | .turn p s, h => by
    unfold Sc.ok0 at h
    have ih := Sc.ok0.sz h.2
    unfold Sc.sz
    split
    · exact ⟨ih.2.2.1, ih.2.2.2, ih.1, ih.2.1⟩
    · exact ih
  | .pane x y w hh s, h => by
    unfold Sc.ok0 at h
    unfold Sc.sz
    exact h.2.1
  | .pile w hh ps, h => by
    unfold Sc.ok0 at h
    unfold Sc.sz
    exact h.1
mutual
theorem mq : ∀ s : Sc, s.q ≤ s.m ∧ 1 ≤ s.m
  | .still X => by unfold Sc.q Sc.m; omega
  | .turn p s => by have := mq s; unfold Sc.q Sc.m; omega
  | .pane x y w hh s => by have := mq s; unfold Sc.q Sc.m; omega
  | .pile w hh ps => by
    have : ps.q ≤ ps.m := mqs ps
    unfold Sc.q Sc.m; omega
theorem mqs : ∀ ps : Sps, ps.q ≤ ps.m
  | .nil => by unfold Sps.q Sps.m; omega
  | .cons rk x y dx dy s ps => by
    have a := mq s
    have b := mqs ps
    unfold Sps.q Sps.m; omega
end
theorem nep : ¬ (("pile" : PySem.Str) = ("still" : PySem.Str)) := by decide
theorem nep2 : ¬ (("pile" : PySem.Str) = ("turn" : PySem.Str)) := by decide
theorem nep3 : ¬ (("pile" : PySem.Str) = ("pane" : PySem.Str)) := by decide
theorem nes2 : ¬ (("turn" : PySem.Str) = ("still" : PySem.Str)) := by decide
theorem nes3 : ¬ (("pane" : PySem.Str) = ("still" : PySem.Str)) := by decide
theorem nes4 : ¬ (("pane" : PySem.Str) = ("turn" : PySem.Str)) := by decide
theorem nes5 : ¬ (("turn" : PySem.Str) = ("pane" : PySem.Str)) := by decide
theorem nes6 : ¬ (("turn" : PySem.Str) = ("pile" : PySem.Str)) := by decide
theorem nes7 : ¬ (("pane" : PySem.Str) = ("pile" : PySem.Str)) := by decide
/-! the law's own view of a scene -/
theorem mod2 (p : Nat) : (p : Int) % 2 = ((p % 2 : Nat) : Int) := by omega
theorem lsize_ok : ∀ (s : Sc) (n : Nat), s.n < n → s.ok0 → Fr_L_size n [.imm false s.sc] = .ok (.imm false (.tup [.int (s.sz.1 : Nat), .int (s.sz.2 : Nat)]))
  | .still X, n, hn, ok => by
    unfold Sc.ok0 at ok
    obtain ⟨m, rfl⟩ : ∃ m, n = m + 1 := ⟨n - 1, by omega⟩
    have R : Rect X.rs X.w X.h := ok
    have hp : picD X.w X.rs = .tup [.int X.w, .int X.h, .tup (X.rs.map fun r => .int (pnt r)), .tup (X.rs.map fun r => .int (msk r))] := by unfold picD; rw [R.len]
    unfold Sc.sc Sc.sz
    rw [hp]
    show mkFn 3 1 (den_L_size (Fr_L_size m)) _ = _
    clear hp R ok hn
    generalize (X.rs.map fun r => D.int (pnt r)) = PP at *
    generalize (X.rs.map fun r => D.int (msk r)) = MM at *
    unfold den_L_size
    walk_at "ev*"
  | .turn p s, n, hn, ok => by
    unfold Sc.n at hn
    unfold Sc.ok0 at ok
    obtain ⟨m, rfl⟩ : ∃ m, n = m + 1 := ⟨n - 1, by omega⟩
    have ih := lsize_ok s m (by omega) ok.2
    have n1 := nes2
    have n2 := nes5
    have n3 := nes6
    have e := mod2 p
    unfold Sc.sc Sc.sz
    show mkFn 3 1 (den_L_size (Fr_L_size m)) _ = _
    clear hn ok
    generalize s.sz.1 = sw at *
    generalize s.sz.2 = sh at *
    generalize s.sc = c at *
    by_cases ho : p % 2 = 1
    · rw [if_pos ho]
      rw [ho] at e
      replace e : (p : Int) % 2 = 1 := e
      clear ho
      unfold den_L_size
      walk_at "ev*"
    · rw [if_neg ho]
      replace e : (p : Int) % 2 = 0 := by omega
      clear ho
      unfold den_L_size
      walk_at "ev*"
  | .pane x y w h s, n, hn, ok => by
    unfold Sc.n at hn
    obtain ⟨m, rfl⟩ : ∃ m, n = m + 1 := ⟨n - 1, by omega⟩
    have n1 := nes3
    unfold Sc.sc Sc.sz
    show mkFn 3 1 (den_L_size (Fr_L_size m)) _ = _
    clear hn ok
    generalize s.sc = c at *
    unfold den_L_size
    walk_at "ev*"
  | .pile w h ps, n, hn, ok => by
    unfold Sc.n at hn
    obtain ⟨m, rfl⟩ : ∃ m, n = m + 1 := ⟨n - 1, by omega⟩
    have n1 := nep
    have n2 := nep3
    unfold Sc.sc Sc.sz
    show mkFn 3 1 (den_L_size (Fr_L_size m)) _ = _
    clear hn ok
    generalize ps.scs = c at *
    unfold den_L_size
    walk_at "ev*"
/-! the layers as the law keeps them -/
/-! the law's scene -/
theorem cell_at_l {zs : List Int} {k : Int} (h1 : 0 ≤ k) (hl : zs.length ≤ 100) : ∃ z, ∀ c2, F_L_cell_at [.imm false (.lst (zs.map D.int)), .imm c2 (.int k)] = .ok (.imm false (.int z)) := by
  have lz : (zs.map D.int).length = zs.length := List.length_map _
  by_cases h : k < (zs.length : Int)
  · obtain ⟨x, hx⟩ : ∃ x, L2.atI (zs.map D.int) k = some (D.int x) := by
      rw [atI_eq h1 (by rw [lz]; exact h)]
      exact ⟨zs[k.toNat]'(by omega), by rw [List.getElem?_map, List.getElem?_eq_getElem (by omega)]; rfl⟩
    refine ⟨x, fun c2 => ?_⟩
    have hk : k < ((zs.map D.int).length : Int) := by rw [lz]; exact h
    have l2 : (zs.map D.int).length ≤ 100 := by rw [lz]; exact hl
    clear lz h hl
    generalize zs.map D.int = Z at *
    unfold F_L_cell_at den_L_cell_at
    walk_at "ev*"
  · refine ⟨0, fun c2 => ?_⟩
    have hk : ¬ k < ((zs.map D.int).length : Int) := by rw [lz]; exact h
    have l2 : (zs.map D.int).length ≤ 100 := by rw [lz]; exact hl
    clear lz h hl
    generalize zs.map D.int = Z at *
    unfold F_L_cell_at den_L_cell_at
    walk_at "ev*"
theorem lpart_ok {z k : Int} (k1 : 0 ≤ k) (k2 : k ≤ 2000) {W H : Nat} (hW : W ≤ 64) (hH : H ≤ 64) {s : Sc} (hn : s.n < 16) (o0 : s.ok0) :
    ∃ rk x y dx dy : Int, (bds rk x y dx dy ∧ lies W H x y dx dy s) ∧ F_L_part [.imm false (.int z), .imm false (.int k), .imm false (.int (W : Nat)), .imm false (.int (H : Nat)), .imm false s.sc] = .ok (.imm false (.tup [.int rk, .int x, .int y, .int dx, .int dy, s.sc])) := by
  have sz : F_L_size [.imm false s.sc] = _ := lsize_ok s 16 hn o0
  obtain ⟨z1, z2, z3, z4⟩ := o0.sz
  obtain ⟨a0, a01, a02, ea0⟩ := @pick_ok z k 5 (by omega) (by omega) (by omega)
  obtain ⟨a1, a11, a12, ea1⟩ := @pick_ok z (k + 1) 7 (by omega) (by omega) (by omega)
  obtain ⟨a2, a21, a22, ea2⟩ := @pick_ok z (k + 2) 5 (by omega) (by omega) (by omega)
  obtain ⟨a3, a31, a32, ea3⟩ := @pick_ok z (k + 3) 9 (by omega) (by omega) (by omega)
  obtain ⟨a4, a41, a42, ea4⟩ := @pick_ok z (k + 4) 2 (by omega) (by omega) (by omega)
  obtain ⟨a5, a51, a52, ea5⟩ := @pick_ok z (k + 5) 3 (by omega) (by omega) (by omega)
  obtain ⟨a6, a61, a62, ea6⟩ := @pick_ok z (k + 6) 2 (by omega) (by omega) (by omega)
  obtain ⟨p7, p71, p72, ep7⟩ := @place_ok z (k + 7) (by omega) (by omega)
  obtain ⟨p9, p91, p92, ep9⟩ := @place_ok z (k + 9) (by omega) (by omega)
  unfold lies
  have room : ∃ b c : Int, (0 ≤ b ∧ 0 ≤ c) ∧ ((s.sz.1 : Int) ≤ W → (s.sz.2 : Int) ≤ H → b < (W : Int) - (s.sz.1 : Int) + 1 ∧ c < (H : Int) - (s.sz.2 : Int) + 1 ∧
      (∀ c1 c2 c3, F_L_pick [.imm c1 (.int z), .imm c2 (.int (k + 11)), .imm c3 (.int ((W : Int) - (s.sz.1 : Int) + 1))] = .ok (.imm false (.int b))) ∧ ∀ c1 c2 c3, F_L_pick [.imm c1 (.int z), .imm c2 (.int (k + 12)), .imm c3 (.int ((H : Int) - (s.sz.2 : Int) + 1))] = .ok (.imm false (.int c))) := by
    by_cases h1 : (s.sz.1 : Int) ≤ W
    · by_cases h2 : (s.sz.2 : Int) ≤ H
      · obtain ⟨b, b0, b1, eb⟩ := @pick_ok z (k + 11) ((W : Int) - (s.sz.1 : Int) + 1) (by omega) (by omega) (by omega)
        obtain ⟨c, c0, c1, ec⟩ := @pick_ok z (k + 12) ((H : Int) - (s.sz.2 : Int) + 1) (by omega) (by omega) (by omega)
        exact ⟨b, c, ⟨b0, c0⟩, fun _ _ => ⟨b1, c1, eb, ec⟩⟩
      · exact ⟨0, 0, ⟨by omega, by omega⟩, fun _ h => absurd h h2⟩
    · exact ⟨0, 0, ⟨by omega, by omega⟩, fun h => absurd h h1⟩
  obtain ⟨b, c, ⟨b0, c0⟩, hr⟩ := room
  clear hn o0
  generalize s.sz.1 = sw at *
  generalize s.sz.2 = sh at *
  generalize s.sc = S at *
  by_cases g : a6 = 0 ∨ (W : Int) < (sw : Int) ∨ (H : Int) < (sh : Int)
  · by_cases h3 : a3 = 0
    · subst h3
      have c4 : a4 = 0 ∨ a4 = 1 := by omega
      rcases c4 with rfl | rfl
      · refine ⟨1000000000, p7, p9, 0, 0, ⟨⟨by omega, by omega, by omega, by omega, by omega⟩, fun h => by omega⟩, ?_⟩
        clear hr
        by_cases g1 : a6 = 0
        · unfold F_L_part den_L_part
          walk_at "ev*"
        · by_cases g2 : (W : Int) < (sw : Int)
          · unfold F_L_part den_L_part
            walk_at "ev*"
          · have g3 : (H : Int) < (sh : Int) := by omega
            unfold F_L_part den_L_part
            walk_at "ev*"
      · refine ⟨-1000000000, p7, p9, 0, 0, ⟨⟨by omega, by omega, by omega, by omega, by omega⟩, fun h => by omega⟩, ?_⟩
        clear hr
        by_cases g1 : a6 = 0
        · unfold F_L_part den_L_part
          walk_at "ev*"
        · by_cases g2 : (W : Int) < (sw : Int)
          · unfold F_L_part den_L_part
            walk_at "ev*"
          · have g3 : (H : Int) < (sh : Int) := by omega
            unfold F_L_part den_L_part
            walk_at "ev*"
    · refine ⟨a0 - 2, p7, p9, 0, 0, ⟨⟨by omega, by omega, by omega, by omega, by omega⟩, fun h => by omega⟩, ?_⟩
      clear hr
      by_cases g1 : a6 = 0
      · unfold F_L_part den_L_part
        walk_at "ev*"
      · by_cases g2 : (W : Int) < (sw : Int)
        · unfold F_L_part den_L_part
          walk_at "ev*"
        · have g3 : (H : Int) < (sh : Int) := by omega
          unfold F_L_part den_L_part
          walk_at "ev*"
  · have g1 : ¬ a6 = 0 := by omega
    have g2 : ¬ (W : Int) < (sw : Int) := by omega
    have g3 : ¬ (H : Int) < (sh : Int) := by omega
    clear g
    obtain ⟨b1, c1, eb, ec⟩ := hr (by omega) (by omega)
    clear hr
    by_cases h3 : a3 = 0
    · subst h3
      have c4 : a4 = 0 ∨ a4 = 1 := by omega
      rcases c4 with rfl | rfl
      · refine ⟨1000000000, b, c, 1000000000 - a5, -1000000000, ⟨⟨by omega, by omega, by omega, by omega, by omega⟩, fun h => by omega⟩, ?_⟩
        unfold F_L_part den_L_part
        walk_at "ev*"
      · refine ⟨-1000000000, b, c, 1000000000 - a5, -1000000000, ⟨⟨by omega, by omega, by omega, by omega, by omega⟩, fun h => by omega⟩, ?_⟩
        unfold F_L_part den_L_part
        walk_at "ev*"
    · refine ⟨a0 - 2, b, c, a1 - 3, a2 - 2, ⟨⟨by omega, by omega, by omega, by omega, by omega⟩, fun h => by omega⟩, ?_⟩
      unfold F_L_part den_L_part
      walk_at "ev*"
def ofL : List Prt → Sps
  | [] => .nil
  | q :: L => .cons q.rk q.x q.y q.dx q.dy q.s (ofL L)
theorem ofL_len : ∀ L, (ofL L).len = L.length
  | [] => rfl
  | q :: L => by unfold ofL Sps.len; rw [ofL_len L]; rfl
theorem ofL_scs : ∀ L, (ofL L).scs = L.map Prt.sc
  | [] => by unfold ofL Sps.scs; rfl
  | q :: L => by unfold ofL Sps.scs; rw [ofL_scs L]; rfl
theorem ofL_ok : ∀ L, (∀ q ∈ L, q.ok0) → (ofL L).ok0
  | [], _ => by unfold ofL Sps.ok0; trivial
  | q :: L, h => by
    unfold ofL Sps.ok0
    have := h q (by simp)
    exact ⟨this.1, this.2, ofL_ok L fun p hp => h p (by simp [hp])⟩
theorem ofL_mq : ∀ L, (ofL L).m = (L.map fun q => q.s.m).sum ∧ (ofL L).q = (L.map fun q => q.s.q).sum
  | [] => by unfold ofL Sps.m Sps.q; exact ⟨rfl, rfl⟩
  | q :: L => by
    have := ofL_mq L
    unfold ofL Sps.m Sps.q
    rw [List.map_cons, List.map_cons, List.sum_cons, List.sum_cons, this.1, this.2]
    exact ⟨rfl, rfl⟩
theorem ofL_n {B : Nat} : ∀ L, (∀ q ∈ L, q.s.n ≤ B) → (ofL L).n ≤ B
  | [], _ => by unfold ofL Sps.n; omega
  | q :: L, h => by
    unfold ofL Sps.n
    have := h q (by simp)
    have := ofL_n L fun p hp => h p (by simp [hp])
    omega
theorem ofL_m {B : Nat} : ∀ L, (∀ q ∈ L, q.s.m ≤ B) → (ofL L).m ≤ L.length * B
  | [], _ => by unfold ofL Sps.m; omega
  | q :: L, h => by
    unfold ofL Sps.m
    have a := h q (by simp)
    have b := ofL_m L fun p hp => h p (by simp [hp])
    rw [List.length_cons, Nat.succ_mul]
    omega
/-- a scene that the law's script gives -/
structure Gv (d k k' : Nat) (s : Sc) : Prop where
  o : s.ok0
  n : s.n ≤ 2 * d
  e : k' = k + s.m
  a : s.m ≤ 1 + 3 * s.q
  b : s.q ≤ 17 - k
def ScO (F : FnT) (Z : D) (d : Nat) : Prop := ∀ k : Nat, ∃ (s : Sc) (k' : Nat), Gv d k k' s ∧ F [.imm false Z, .imm false (.int (k : Nat)), .imm false (.int (d : Nat))] = .ok (.imm false (.tup [s.sc, .int (k' : Nat)]))
theorem scene_turn {F : FnT} {Z : D} {d : Nat} (d4 : d ≤ 4) (ih : ScO F Z d) {z : Int} {w h : Nat} (w2 : w ≤ 64) (h2 : h ≤ 64) {A : List D} (hA : A.length ≤ 100) (t1 t4 t5 : T) (b j : Nat) (hj : j ≤ 4) : ∃ (q : Prt) (b' : Nat), q.ok0 ∧ Gv d b b' q.s ∧
    bd_L_scene_1 F [.imm false Z, t1, .imm false (.int ((d + 1 : Nat) : Int)), .imm false (.int z), t4, t5, .imm false (.int (b : Nat)), .imm false (.int (w : Nat)), .imm false (.int (h : Nat)), .lstI A, .imm false (.int (j : Nat))] =
      .next [.imm false Z, t1, .imm false (.int ((d + 1 : Nat) : Int)), .imm false (.int z), t4, .imm false q.s.sc, .imm false (.int (b' : Nat)), .imm false (.int (w : Nat)), .imm false (.int (h : Nat)), .lstI (A ++ [q.sc]), .imm false (.int (j : Nat))] := by
  obtain ⟨s, b', g, e⟩ := ih b
  obtain ⟨rk, x, y, dx, dy, ⟨bd, l⟩, ep⟩ := @lpart_ok z (20 + 20 * (j : Int)) (by omega) (by omega) w h w2 h2 s (by have := g.n; omega) g.o
  refine ⟨⟨rk, x, y, dx, dy, s⟩, b', ⟨bd, g.o⟩, g, ?_⟩
  have ed : (((d + 1 : Nat) : Int) - 1) = (d : Int) := by omega
  rw [← ed] at e
  unfold Prt.sc
  clear g bd l ed ih
  generalize ((d + 1 : Nat) : Int) = d' at *
  generalize s.sc = c at *
  unfold bd_L_scene_1
  walk_at "ev*"
/-- the parts of a pile, the numbers of scenes in them -/
structure Sm (b b' : Nat) (L : List Prt) : Prop where
  e : b' = b + (L.map fun q => q.s.m).sum
  a : (L.map fun q => q.s.m).sum ≤ L.length + 3 * (L.map fun q => q.s.q).sum
  c : (L.map fun q => q.s.q).sum ≤ (L.map fun q => q.s.m).sum
  b : (L.map fun q => q.s.q).sum ≤ 17 - b
theorem Sm.snoc {d b b' b2 : Nat} {L : List Prt} {q : Prt} (s : Sm b b' L) (g : Gv d b' b2 q.s) : Sm b b2 (L ++ [q]) := by
  have h1 := s.e
  have h2 := s.a
  have h3 := s.c
  have h4 := s.b
  have g1 := g.e
  have g2 := g.a
  have g3 := g.b
  have g4 := mq q.s
  have e1 : ((L ++ [q]).map fun q => q.s.m).sum = (L.map fun q => q.s.m).sum + q.s.m := by simp
  have e2 : ((L ++ [q]).map fun q => q.s.q).sum = (L.map fun q => q.s.q).sum + q.s.q := by simp
  refine ⟨?_, ?_, ?_, ?_⟩
  · rw [e1]; omega
  · rw [e1, e2, List.length_append, List.length_singleton]; omega
  · rw [e1, e2]; omega
  · rw [e2]; omega
theorem scene_loop {F : FnT} {Z : D} {d : Nat} (d4 : d ≤ 4) (ih : ScO F Z d) {z : Int} {w h : Nat} (w2 : w ≤ 64) (h2 : h ≤ 64) (t1 t4 : T) (b N : Nat) (hN : N ≤ 3) : ∃ L : List Prt, L.length = N ∧ (∀ q ∈ L, q.ok0 ∧ q.s.n ≤ 2 * d) ∧ ∃ (b' : Nat) (t5 t10 : T), Sm b b' L ∧
    forL (dgName 10) (bd_L_scene_1 F) false (rangeD 0 N) [.imm false Z, t1, .imm false (.int ((d + 1 : Nat) : Int)), .imm false (.int z), t4, .dead, .imm false (.int (b : Nat)), .imm false (.int (w : Nat)), .imm false (.int (h : Nat)), .lstI [], .dead] =
      .next [.imm false Z, t1, .imm false (.int ((d + 1 : Nat) : Int)), .imm false (.int z), t4, t5, .imm false (.int (b' : Nat)), .imm false (.int (w : Nat)), .imm false (.int (h : Nat)), .lstI (L.map Prt.sc), t10] := by
  obtain ⟨ρ', e, L, hL, ho, b', t5, t10, sm, rfl⟩ := forL_range (dg := dgName 10) (body := bd_L_scene_1 F) (b := false) (lo := 0) (n := N) (ρ := [.imm false Z, t1, .imm false (.int ((d + 1 : Nat) : Int)), .imm false (.int z), t4, .dead, .imm false (.int (b : Nat)), .imm false (.int (w : Nat)), .imm false (.int (h : Nat)), .lstI [], .dead])
    (P := fun i ρ => ∃ L : List Prt, L.length = i ∧ (∀ q ∈ L, q.ok0 ∧ q.s.n ≤ 2 * d) ∧ ∃ (b' : Nat) (t5 t10 : T), Sm b b' L ∧ ρ = [.imm false Z, t1, .imm false (.int ((d + 1 : Nat) : Int)), .imm false (.int z), t4, t5, .imm false (.int (b' : Nat)), .imm false (.int (w : Nat)), .imm false (.int (h : Nat)), .lstI (L.map Prt.sc), t10])
    ⟨[], rfl, fun q hq => by simp at hq, b, _, _, ⟨rfl, by simp, by simp, by simp⟩, rfl⟩ fun i ρ hi ⟨L, hL, ho, b', t5, t10, sm, eρ⟩ => by
      subst eρ
      obtain ⟨q, b2, q1, q2, e⟩ := scene_turn d4 ih (z := z) w2 h2 (A := L.map Prt.sc) (by simp; omega) t1 t4 t5 b' i (by omega)
      refine ⟨_, _, by rw [Int.zero_add]; rfl, .inl e, L ++ [q], by simp [hL], fun p hp => ?_, b2, _, _, sm.snoc q2, by rw [List.map_append]; rfl⟩
      rcases List.mem_append.mp hp with hp | hp
      · exact ho p hp
      · rw [List.mem_singleton.mp hp]; exact ⟨q1, q2.n⟩
  exact ⟨L, hL, ho, b', t5, t10, sm, e⟩
theorem lscene_ok {zs : List Int} (hl : zs.length ≤ 100) : ∀ (d n : Nat), d < n → d ≤ 4 → ScO (Fr_L_scene n) (.lst (zs.map D.int)) d
  | d, n, hn, d4, k => by
    obtain ⟨m, rfl⟩ : ∃ m, n = m + 1 := ⟨n - 1, by omega⟩
    obtain ⟨z, ez⟩ := @cell_at_l zs (k : Nat) (by omega) hl
    obtain ⟨way, y0, y1, ey⟩ := @pick_ok z 1 10 (by omega) (by omega) (by omega)
    show ∃ (s : Sc) (k' : Nat), _ ∧ mkFn 11 3 (den_L_scene (Fr_L_scene m)) _ = _
    by_cases A : d = 0 ∨ way < 3 ∨ 16 < (k : Int)
    · obtain ⟨X, g, _, _, ep⟩ := pic_by_ok z false
      refine ⟨.still X, k + 1, ⟨by unfold Sc.ok0; exact g, by unfold Sc.n; omega, by unfold Sc.m; rfl, by unfold Sc.m Sc.q; omega, by unfold Sc.q; omega⟩, ?_⟩
      · rw [show (Sc.still X).sc = .tup [.str ("still" : PySem.Str), picD X.w X.rs] by rw [Sc.sc], show ((k + 1 : Nat) : Int) = (k : Int) + 1 by omega]
        clear g
        generalize picD X.w X.rs = P at *
        generalize zs.map D.int = Z at *
        by_cases h1 : d = 0
        · subst h1
          rw [show ((0 : Nat) : Int) = 0 from rfl]
          unfold den_L_scene
          walk_at "ev*"
        · have h1' : ¬ (d : Int) = 0 := by omega
          by_cases h2 : way < 3
          · unfold den_L_scene
            walk_at "ev*"
          · have h3 : 16 < (k : Int) := by omega
            unfold den_L_scene
            walk_at "ev*"
    · obtain ⟨d, rfl⟩ : ∃ d', d = d' + 1 := ⟨d - 1, by omega⟩
      have ih := lscene_ok hl d m (by omega) (by omega)
      have h1 : ¬ (((d + 1 : Nat) : Int)) = 0 := by omega
      have h2 : ¬ way < 3 := by omega
      have h3 : ¬ 16 < (k : Int) := by omega
      have ed : (((d + 1 : Nat) : Int) - 1) = (d : Int) := by omega
      clear A
      by_cases w5 : way < 5
      · obtain ⟨s, k', g, e⟩ := ih (k + 1)
        obtain ⟨p, p0, p1, ep⟩ := @pick_ok z 5 8 (by omega) (by omega) (by omega)
        obtain ⟨p, rfl⟩ := Int.eq_ofNat_of_zero_le p0
        refine ⟨.turn p s, k', ⟨by unfold Sc.ok0; exact ⟨by omega, g.o⟩, by have := g.n; unfold Sc.n; omega, by have := g.e; unfold Sc.m; omega, by have := g.a; unfold Sc.m Sc.q; omega, by have := g.b; unfold Sc.q; omega⟩, ?_⟩
        rw [show (Sc.turn p s).sc = .tup [.str ("turn" : PySem.Str), .int (p : Nat), s.sc] by rw [Sc.sc]]
        rw [show ((k + 1 : Nat) : Int) = (k : Int) + 1 by omega, ← ed] at e
        clear g ih ed
        generalize ((d + 1 : Nat) : Int) = d' at *
        generalize zs.map D.int = Z at *
        generalize s.sc = c at *
        unfold den_L_scene
        walk_at "ev*"
      · obtain ⟨a, a0, a1, ea⟩ := @pick_ok z 6 7 (by omega) (by omega) (by omega)
        obtain ⟨b, b0, b1, eb⟩ := @pick_ok z 7 7 (by omega) (by omega) (by omega)
        obtain ⟨w, hw⟩ : ∃ w : Nat, (w : Int) = 1 + a := ⟨(1 + a).toNat, by omega⟩
        obtain ⟨h, hh⟩ : ∃ h : Nat, (h : Int) = 1 + b := ⟨(1 + b).toNat, by omega⟩
        by_cases e5 : way = 5
        · obtain ⟨s, k', g, e⟩ := ih (k + 1)
          obtain ⟨x, x1, x2, ex⟩ := @place_ok z 8 (by omega) (by omega)
          obtain ⟨y, y1, y2, eyy⟩ := @place_ok z 10 (by omega) (by omega)
          refine ⟨.pane x y w h s, k', ⟨by unfold Sc.ok0; exact ⟨⟨by omega, by omega, by omega, by omega⟩, ⟨by omega, by omega, by omega, by omega⟩, g.o⟩, by have := g.n; unfold Sc.n; omega, by have := g.e; unfold Sc.m; omega, by have := g.a; unfold Sc.m Sc.q; omega, by have := g.b; unfold Sc.q; omega⟩, ?_⟩
          rw [show (Sc.pane x y w h s).sc = .tup [.str ("pane" : PySem.Str), .int x, .int y, .int (w : Nat), .int (h : Nat), s.sc] by rw [Sc.sc], hw, hh]
          rw [show ((k + 1 : Nat) : Int) = (k : Int) + 1 by omega, ← ed] at e
          subst e5
          clear g ih ed hw hh
          generalize ((d + 1 : Nat) : Int) = d' at *
          generalize zs.map D.int = Z at *
          generalize s.sc = c at *
          unfold den_L_scene
          walk_at "ev*"
        ·
          obtain ⟨N, n0, n1, eN⟩ := @pick_ok z 12 4 (by omega) (by omega) (by omega)
          obtain ⟨N, rfl⟩ := Int.eq_ofNat_of_zero_le n0
          obtain ⟨L, hL, ho, b', t5, t10, sm, e⟩ := scene_loop (by omega) ih (z := z) (w := w) (h := h) (by omega) (by omega) (.imm false (.int (k : Nat))) (.imm false (.int way)) (k + 1) N (by omega)
          obtain ⟨mm1, mm2⟩ := ofL_mq L
          refine ⟨.pile w h (ofL L), b', ⟨by unfold Sc.ok0; exact ⟨⟨by omega, by omega, by omega, by omega⟩, by rw [ofL_len]; omega, ofL_ok L fun q hq => (ho q hq).1⟩, by have := ofL_n (B := 2 * d) L (fun q hq => (ho q hq).2); unfold Sc.n; omega, by have := sm.e; unfold Sc.m; omega, by have := sm.a; unfold Sc.m Sc.q; omega, by have := sm.b; unfold Sc.q; omega⟩, ?_⟩
          rw [show (Sc.pile w h (ofL L)).sc = .tup [.str ("pile" : PySem.Str), .int (w : Nat), .int (h : Nat), .tup (L.map Prt.sc)] by rw [Sc.sc, ofL_scs], hw, hh]
          rw [show ((k + 1 : Nat) : Int) = (k : Int) + 1 by omega, hw, hh] at e
          have lz : (L.map Prt.sc).length ≤ 3 := by simp; omega
          clear ih ed hw hh ho hL mm1 mm2 sm
          generalize ((d + 1 : Nat) : Int) = d' at *
          generalize zs.map D.int = Z at *
          generalize L.map Prt.sc = S at *
          unfold den_L_scene
          walk_at "ev*"
/-! the law's scene with parts moved off -/
structure Bt (s s' : Sc) : Prop where
  o : s'.ok0
  n : s'.n = s.n
  z : s'.sz = s.sz
  m : s'.m = s.m
structure Bts (s s' : Sps) : Prop where
  o : s'.ok0
  n : s'.n = s.n
  l : s'.len = s.len
  m : s'.m = s.m
theorem cut2 (a b c : D) : cutD [a, b, c] none (some 2) = [a, b] := rfl
theorem cut3 (a b c d : D) : cutD [a, b, c, d] none (some 3) = [a, b, c] := rfl
theorem cut5' (a b c d e f : D) : cutD [a, b, c, d, e, f] none (some 5) = [a, b, c, d, e] := rfl
theorem bent_turn {m i w h : Nat} (w2 : w ≤ 64) {ty Z : D} {z : Int} {q : Prt} {s' : Sc} (ok : bds q.rk q.x q.y q.dx q.dy) (o' : s'.ok0) (hn : s'.n < 16) (e : Fr_L_bent m [.imm false q.s.sc, .imm false (.int (z * 5 + 7 * (i : Int) + 2))] = .ok (.imm false s'.sc)) {A : List D} (hA : A.length ≤ 100) (t5 t6 t7 t8 : T) :
    ∃ rk x y dx dy : Int, bds rk x y dx dy ∧ ∃ u5 u6 u7 u8 : T, bd_L_bent_1 (Fr_L_bent m) [.imm false (.tup [ty, .int (w : Nat), .int (h : Nat), Z]), .imm false (.int z), .lstI A, .imm false (.int (i : Nat)), .imm false q.sc, t5, t6, t7, t8] =
      .next [.imm false (.tup [ty, .int (w : Nat), .int (h : Nat), Z]), .imm false (.int z), .lstI (A ++ [.tup [.int rk, .int x, .int y, .int dx, .int dy, s'.sc]]), .imm false (.int (i : Nat)), .imm false q.sc, u5, u6, u7, u8] := by
  have sz : F_L_size [.imm false s'.sc] = _ := lsize_ok s' 16 hn o'
  obtain ⟨z1, z2, z3, z4⟩ := o'.sz
  obtain ⟨a, a0, a1, ea⟩ := @pick_ok (z * 5 + 7 * (i : Int) + 2) 13 4 (by omega) (by omega) (by omega)
  obtain ⟨b, b0, b1, eb⟩ := @pick_ok (z * 5 + 7 * (i : Int) + 2) 14 4 (by omega) (by omega) (by omega)
  obtain ⟨r1, x1, y1, d1, d2⟩ := ok
  unfold Prt.sc
  clear hn o'
  generalize s'.sz.1 = sw at *
  generalize s'.sz.2 = sh at *
  generalize Fr_L_bent m = PF at *
  generalize s'.sc = c' at *
  generalize q.s.sc = c at *
  generalize q.rk = rk at *
  generalize q.x = x at *
  generalize q.y = y at *
  generalize q.dx = dx at *
  generalize q.dy = dy at *
  by_cases ha : a = 0
  · subst ha
    have cb : b = 0 ∨ b = 1 ∨ b = 2 ∨ b = 3 := by omega
    rcases cb with rfl | rfl | rfl | rfl
    · refine ⟨rk, -1, 0, 0, 1, ⟨r1, by omega, by omega, by omega, by omega⟩, .imm false (.int (z * 5 + 7 * (i : Int) + 2)), .imm false c', .imm false (.tup [.int (sw : Nat), .int (sh : Nat)]), .lstI [.tup [.int (-1), .int 0], .tup [.int ((w : Int) - (sw : Int) + 1), .int 0], .tup [.int 0, .int (-1000000000)], .tup [.int 0, .int 1000000000]], ?_⟩
      unfold bd_L_bent_1
      walk_at "ev*"
    · refine ⟨rk, (w : Int) - (sw : Int) + 1, 0, 0, 1, ⟨r1, by omega, by omega, by omega, by omega⟩, .imm false (.int (z * 5 + 7 * (i : Int) + 2)), .imm false c', .imm false (.tup [.int (sw : Nat), .int (sh : Nat)]), .lstI [.tup [.int (-1), .int 0], .tup [.int ((w : Int) - (sw : Int) + 1), .int 0], .tup [.int 0, .int (-1000000000)], .tup [.int 0, .int 1000000000]], ?_⟩
      unfold bd_L_bent_1
      walk_at "ev*"
    · refine ⟨rk, 0, -1000000000, 0, 1, ⟨r1, by omega, by omega, by omega, by omega⟩, .imm false (.int (z * 5 + 7 * (i : Int) + 2)), .imm false c', .imm false (.tup [.int (sw : Nat), .int (sh : Nat)]), .lstI [.tup [.int (-1), .int 0], .tup [.int ((w : Int) - (sw : Int) + 1), .int 0], .tup [.int 0, .int (-1000000000)], .tup [.int 0, .int 1000000000]], ?_⟩
      unfold bd_L_bent_1
      walk_at "ev*"
    · refine ⟨rk, 0, 1000000000, 0, 1, ⟨r1, by omega, by omega, by omega, by omega⟩, .imm false (.int (z * 5 + 7 * (i : Int) + 2)), .imm false c', .imm false (.tup [.int (sw : Nat), .int (sh : Nat)]), .lstI [.tup [.int (-1), .int 0], .tup [.int ((w : Int) - (sw : Int) + 1), .int 0], .tup [.int 0, .int (-1000000000)], .tup [.int 0, .int 1000000000]], ?_⟩
      unfold bd_L_bent_1
      walk_at "ev*"
  · refine ⟨rk, x, y, dx, dy, ⟨r1, x1, y1, d1, d2⟩, .imm false (.int (z * 5 + 7 * (i : Int) + 2)), .imm false c', .imm false (.tup [.int (sw : Nat), .int (sh : Nat)]), .lstI [.tup [.int (-1), .int 0], .tup [.int ((w : Int) - (sw : Int) + 1), .int 0], .tup [.int 0, .int (-1000000000)], .tup [.int 0, .int 1000000000]], ?_⟩
    have cu := cut5' (.int rk) (.int x) (.int y) (.int dx) (.int dy) c
    unfold bd_L_bent_1
    walk_at "ev*"
mutual
theorem lbent_ok : ∀ (s : Sc) (n : Nat), s.n < n → n ≤ 16 → s.ok0 → ∀ z : Int, ∃ s' : Sc, Bt s s' ∧ Fr_L_bent n [.imm false s.sc, .imm false (.int z)] = .ok (.imm false s'.sc)
  | .still X, n, hn, _, ok, z => by
    obtain ⟨m, rfl⟩ : ∃ m, n = m + 1 := ⟨n - 1, by omega⟩
    refine ⟨.still X, ⟨ok, rfl, rfl, rfl⟩, ?_⟩
    rw [Sc.sc]
    show mkFn 9 2 (den_L_bent (Fr_L_bent m)) _ = _
    clear hn ok
    generalize picD X.w X.rs = P
    unfold den_L_bent
    walk_at "ev*"
  | .turn p s, n, hn, h10, ok, z => by
    unfold Sc.n at hn
    unfold Sc.ok0 at ok
    obtain ⟨m, rfl⟩ : ∃ m, n = m + 1 := ⟨n - 1, by omega⟩
    obtain ⟨s', b, ih⟩ := lbent_ok s m (by omega) (by omega) ok.2 (z * 3 + 1)
    refine ⟨.turn p s', ⟨by unfold Sc.ok0; exact ⟨ok.1, b.o⟩, by unfold Sc.n; rw [b.n], by unfold Sc.sz; rw [b.z], by unfold Sc.m; rw [b.m]⟩, ?_⟩
    have n1 := nes2
    have n2 := nes6
    have cu := cut2 (.str ("turn" : PySem.Str)) (.int (p : Nat)) s.sc
    rw [show (Sc.turn p s).sc = .tup [.str ("turn" : PySem.Str), .int (p : Nat), s.sc] by rw [Sc.sc], show (Sc.turn p s').sc = .tup [.str ("turn" : PySem.Str), .int (p : Nat), s'.sc] by rw [Sc.sc]]
    show mkFn 9 2 (den_L_bent (Fr_L_bent m)) _ = _
    clear hn h10 ok b
    generalize s.sc = c at *
    generalize s'.sc = c' at *
    unfold den_L_bent
    walk_at "ev*"
  | .pane x y w h s, n, hn, h10, ok, z => by
    unfold Sc.n at hn
    unfold Sc.ok0 at ok
    obtain ⟨m, rfl⟩ : ∃ m, n = m + 1 := ⟨n - 1, by omega⟩
    obtain ⟨s', b, ih⟩ := lbent_ok s m (by omega) (by omega) ok.2.2 (z * 3 + 1)
    refine ⟨.pane x y w h s', ⟨by unfold Sc.ok0; exact ⟨ok.1, ok.2.1, b.o⟩, by unfold Sc.n; rw [b.n], by unfold Sc.sz; rfl, by unfold Sc.m; rw [b.m]⟩, ?_⟩
    have n1 := nes3
    have n2 := nes7
    have cu := cut5' (.str ("pane" : PySem.Str)) (.int x) (.int y) (.int (w : Nat)) (.int (h : Nat)) s.sc
    rw [show (Sc.pane x y w h s).sc = .tup [.str ("pane" : PySem.Str), .int x, .int y, .int (w : Nat), .int (h : Nat), s.sc] by rw [Sc.sc], show (Sc.pane x y w h s').sc = .tup [.str ("pane" : PySem.Str), .int x, .int y, .int (w : Nat), .int (h : Nat), s'.sc] by rw [Sc.sc]]
    show mkFn 9 2 (den_L_bent (Fr_L_bent m)) _ = _
    clear hn h10 ok b
    generalize s.sc = c at *
    generalize s'.sc = c' at *
    unfold den_L_bent
    walk_at "ev*"
  | .pile w h ps, n, hn, h10, ok, z => by
    unfold Sc.n at hn
    unfold Sc.ok0 at ok
    obtain ⟨m, rfl⟩ : ∃ m, n = m + 1 := ⟨n - 1, by omega⟩
    obtain ⟨ps', b, u3, u4, u5, u6, u7, u8, e⟩ := lbents_ok ps m (by omega) (by omega) ok.2.2 w h ok.1.2.1 (.str ("pile" : PySem.Str)) (.tup ps.scs) z 0 [] (by have := ok.2.1; simp; omega) .dead .dead .dead .dead .dead .dead
    refine ⟨.pile w h ps', ⟨by unfold Sc.ok0; exact ⟨ok.1, by rw [b.l]; exact ok.2.1, b.o⟩, by unfold Sc.n; rw [b.n], by unfold Sc.sz; rfl, by unfold Sc.m; rw [b.m]⟩, ?_⟩
    have n1 := nep
    have cu := cut3 (.str ("pile" : PySem.Str)) (.int (w : Nat)) (.int (h : Nat)) (.tup ps.scs)
    have lz : ps.scs.length ≤ 60 := by rw [scs_eq, List.length_map, len_eq]; exact ok.2.1
    have lz' : ps'.scs.length ≤ 60 := by rw [scs_eq, List.length_map, len_eq, b.l]; exact ok.2.1
    rw [show (Sc.pile w h ps).sc = .tup [.str ("pile" : PySem.Str), .int (w : Nat), .int (h : Nat), .tup ps.scs] by rw [Sc.sc], show (Sc.pile w h ps').sc = .tup [.str ("pile" : PySem.Str), .int (w : Nat), .int (h : Nat), .tup ps'.scs] by rw [Sc.sc]]
    show mkFn 9 2 (den_L_bent (Fr_L_bent m)) _ = _
    rw [List.nil_append] at e
    clear hn h10 ok b
    generalize ps.scs = S at *
    generalize ps'.scs = S' at *
    unfold den_L_bent
    walk_at "ev*"
theorem lbents_ok : ∀ (ps : Sps) (n : Nat), ps.n < n → n ≤ 16 → ps.ok0 → ∀ (w h : Nat), w ≤ 64 → ∀ (ty Z : D) (z : Int) (i : Nat) (A : List D), A.length + ps.len ≤ 60 → ∀ (t3 t4 t5 t6 t7 t8 : T), ∃ ps' : Sps, Bts ps ps' ∧ ∃ u3 u4 u5 u6 u7 u8 : T,
    forL (dgTup (dgCons (dgName 3) (dgCons (dgName 4) dgNil))) (bd_L_bent_1 (Fr_L_bent n)) false (enD i ps.scs) [.imm false (.tup [ty, .int (w : Nat), .int (h : Nat), Z]), .imm false (.int z), .lstI A, t3, t4, t5, t6, t7, t8] =
      .next [.imm false (.tup [ty, .int (w : Nat), .int (h : Nat), Z]), .imm false (.int z), .lstI (A ++ ps'.scs), u3, u4, u5, u6, u7, u8]
  | .nil, n, _, _, _, w, h, _, ty, Z, z, i, A, _, t3, t4, t5, t6, t7, t8 => by
    refine ⟨.nil, ⟨by unfold Sps.ok0; trivial, rfl, rfl, rfl⟩, t3, t4, t5, t6, t7, t8, ?_⟩
    rw [Sps.scs, List.append_nil]
    rfl
  | .cons rk x y dx dy s ps, n, hn, h10, ok, w, h, w2, ty, Z, z, i, A, hA, t3, t4, t5, t6, t7, t8 => by
    unfold Sps.n at hn
    unfold Sps.ok0 at ok
    unfold Sps.len at hA
    obtain ⟨s', b, ih⟩ := lbent_ok s n (by omega) h10 ok.2.1 (z * 5 + 7 * (i : Int) + 2)
    obtain ⟨rk', x', y', dx', dy', bd, v5, v6, v7, v8, e⟩ := bent_turn (i := i) (h := h) w2 (ty := ty) (Z := Z) (q := ⟨rk, x, y, dx, dy, s⟩) ok.1 b.o (by rw [b.n]; omega) ih (A := A) (by omega) t5 t6 t7 t8
    obtain ⟨ps', bs, u3, u4, u5, u6, u7, u8, e2⟩ := lbents_ok ps n (by omega) h10 ok.2.2 w h w2 ty Z z (i + 1) (A ++ [.tup [.int rk', .int x', .int y', .int dx', .int dy', s'.sc]]) (by simp; omega) (.imm false (.int (i : Nat))) (.imm false (.tup [.int rk, .int x, .int y, .int dx, .int dy, s.sc])) v5 v6 v7 v8
    refine ⟨.cons rk' x' y' dx' dy' s' ps', ⟨by unfold Sps.ok0; exact ⟨bd, b.o, bs.o⟩, by unfold Sps.n; rw [b.n, bs.n], by unfold Sps.len; rw [bs.l], by unfold Sps.m; rw [b.m, bs.m]⟩, u3, u4, u5, u6, u7, u8, ?_⟩
    rw [show (Sps.cons rk x y dx dy s ps).scs = .tup [.int rk, .int x, .int y, .int dx, .int dy, s.sc] :: ps.scs by rw [Sps.scs], show (Sps.cons rk' x' y' dx' dy' s' ps').scs = .tup [.int rk', .int x', .int y', .int dx', .int dy', s'.sc] :: ps'.scs by rw [Sps.scs], show enD i (D.tup [.int rk, .int x, .int y, .int dx, .int dy, s.sc] :: ps.scs) = .tup [.int (i : Nat), .tup [.int rk, .int x, .int y, .int dx, .int dy, s.sc]] :: enD (i + 1) ps.scs from rfl]
    rw [List.append_assoc, List.singleton_append] at e2
    unfold Prt.sc at e
    unfold forL
    simp only [show dgTup (dgCons (dgName 3) (dgCons (dgName 4) dgNil)) (.imm false (.tup [.int (i : Nat), .tup [.int rk, .int x, .int y, .int dx, .int dy, s.sc]])) [.imm false (.tup [ty, .int (w : Nat), .int (h : Nat), Z]), .imm false (.int z), .lstI A, t3, t4, t5, t6, t7, t8] = some [.imm false (.tup [ty, .int (w : Nat), .int (h : Nat), Z]), .imm false (.int z), .lstI A, .imm false (.int (i : Nat)), .imm false (.tup [.int rk, .int x, .int y, .int dx, .int dy, s.sc]), t5, t6, t7, t8] from rfl, e, e2]
end
/-! the law's greater ones -/
theorem lgreat_ok {s : Sc} (ok : s.ok0) (hn : s.n ≤ 11) (hm : s.m ≤ 60) (z : Int) : ∃ s' : Sc, s'.ok0 ∧ s'.n ≤ 11 ∧ s'.m ≤ 60 ∧ F_L_great [.imm false (.int z), .imm false s.sc] = .ok (.imm false s'.sc) := by
  obtain ⟨way, y0, y1, ey⟩ := @pick_ok z 1 8 (by omega) (by omega) (by omega)
  obtain ⟨X, g, _, _, epic⟩ := pic_by_ok z false
  have est : (Sc.still X).sc = .tup [.str ("still" : PySem.Str), picD X.w X.rs] := by rw [Sc.sc]
  by_cases w3 : way = 3
  · subst w3
    obtain ⟨ρ', e, s', t3, o', n', m', rfl⟩ := forL_range (dg := dgName 3) (body := bd_L_great_1) (b := false) (lo := 0) (n := 11) (ρ := [.imm false (.int z), .imm false (Sc.still X).sc, .imm false (.int 3), .dead, .dead, .dead])
      (P := fun i ρ => ∃ (s : Sc) (t3 : T), s.ok0 ∧ s.n = i ∧ s.m = i + 1 ∧ ρ = [.imm false (.int z), .imm false s.sc, .imm false (.int 3), t3, .dead, .dead])
      ⟨.still X, _, by unfold Sc.ok0; exact g, by unfold Sc.n; rfl, by unfold Sc.m; rfl, rfl⟩ fun i ρ hi ⟨s, t3, o, n, m, eρ⟩ => by
        subst eρ
        obtain ⟨p, p0, p1, ep⟩ := @pick_ok z (20 + (i : Int)) 8 (by omega) (by omega) (by omega)
        obtain ⟨p, rfl⟩ := Int.eq_ofNat_of_zero_le p0
        refine ⟨_, [.imm false (.int z), .imm false (Sc.turn p s).sc, .imm false (.int 3), .imm false (.int (i : Nat)), .dead, .dead], by rw [Int.zero_add]; rfl, .inl ?_, .turn p s, _, by unfold Sc.ok0; exact ⟨by omega, o⟩, by unfold Sc.n; omega, by unfold Sc.m; omega, rfl⟩
        rw [show (Sc.turn p s).sc = .tup [.str ("turn" : PySem.Str), .int (p : Nat), s.sc] by rw [Sc.sc]]
        clear o n m ok hn hm est epic g
        generalize s.sc = c at *
        unfold bd_L_great_1
        walk_at "ev*"
    refine ⟨s', o', by omega, by omega, ?_⟩
    rw [est] at e
    clear ok hn hm o' n' m' est g
    generalize s.sc = c at *
    generalize s'.sc = c' at *
    generalize picD X.w X.rs = P at *
    unfold F_L_great den_L_great
    walk_at "ev*"
  · by_cases w4 : way = 4
    · subst w4
      have o0 : (Sc.still X).ok0 := by unfold Sc.ok0; exact g
      have hs : ∀ i : Nat, ∃ q : Prt, i < 59 → q.ok0 ∧ q.s = .still X ∧ F_L_part [.imm false (.int z), .imm false (.int (20 + 20 * (i : Int))), .imm false (.int 7), .imm false (.int 7), .imm false (Sc.still X).sc] = .ok (.imm false q.sc) := fun i => by
        by_cases hi : i < 59
        · obtain ⟨rk, x, y, dx, dy, ⟨bd, _⟩, e⟩ := @lpart_ok z (20 + 20 * (i : Int)) (by omega) (by omega) 7 7 (by omega) (by omega) (.still X) (by unfold Sc.n; omega) o0
          exact ⟨⟨rk, x, y, dx, dy, .still X⟩, fun _ => ⟨⟨bd, o0⟩, rfl, e⟩⟩
        · exact ⟨⟨0, 0, 0, 0, 0, .still X⟩, fun q => absurd q hi⟩
      obtain ⟨f, hf⟩ := Classical.axiomOfChoice hs
      obtain ⟨ρ', e, h2⟩ := compL_range (dg := dgName 3) (dt := dtYes) (de := dFr (dCall F_L_part [] (dCons (dVar 0) (dCons (d2 fAdd (dC (.int 20)) (dFr (d2 fMul (dC (.int 20)) (dVar 3)))) (dCons (dC (.int 7)) (dCons (dC (.int 7)) (dCons (dVar 4) dNil))))))) (own := [3]) (b := false) (lo := 0) (n := 59) (f := fun i => (f i).sc)
        (ρ := [.imm false (.int z), .imm false s.sc, .imm false (.int 4), .dead, .imm false (Sc.still X).sc, .dead]) (P := fun ρ => ρ = [.imm false (.int z), .imm false s.sc, .imm false (.int 4), .dead, .imm false (Sc.still X).sc, .dead]) rfl fun i ρ hi eρ => by
          subst eρ
          have q := (hf i hi).2.2
          refine ⟨_, _, .imm false (f i).sc, [.imm false (.int z), .imm false s.sc, .imm false (.int 4), .imm false (.int (i : Nat)), .imm false (Sc.still X).sc, .dead], by rw [Int.zero_add]; rfl, rfl, ?_, rfl, rfl⟩
          clear hf hs ok hn hm o0 est epic g
          generalize (f i).sc = n at *
          generalize s.sc = c at *
          generalize (Sc.still X).sc = c' at *
          walk_at "ev*"
      subst h2
      have eL : (List.range 59).map (fun i => (f i).sc) = ((List.range 59).map f).map Prt.sc := by rw [List.map_map]; rfl
      rw [eL] at e
      have hL : ∀ q ∈ (List.range 59).map f, q.ok0 ∧ q.s = .still X := fun q hq => by
        obtain ⟨i, hi, rfl⟩ := List.mem_map.mp hq
        have := hf i (List.mem_range.mp hi)
        exact ⟨this.1, this.2.1⟩
      have lL : ((List.range 59).map f).length = 59 := by rw [List.length_map, List.length_range]
      clear hf hs eL
      generalize (List.range 59).map f = L at *
      have m1 := ofL_m (B := 1) L fun q hq => by rw [(hL q hq).2]; unfold Sc.m; omega
      have n1 := ofL_n (B := 0) L fun q hq => by rw [(hL q hq).2]; unfold Sc.n; omega
      refine ⟨.pile 7 7 (ofL L), by unfold Sc.ok0; exact ⟨⟨by omega, by omega, by omega, by omega⟩, by rw [ofL_len]; omega, ofL_ok L fun q hq => (hL q hq).1⟩, by unfold Sc.n; omega, by unfold Sc.m; omega, ?_⟩
      rw [show (Sc.pile 7 7 (ofL L)).sc = .tup [.str ("pile" : PySem.Str), .int 7, .int 7, .tup (L.map Prt.sc)] by rw [Sc.sc, ofL_scs]; rfl]
      rw [est] at e
      have lz : (L.map Prt.sc).length ≤ 60 := by rw [List.length_map]; omega
      clear ok hn hm o0 est g hL lL m1 n1
      generalize s.sc = c at *
      generalize L.map Prt.sc = S at *
      generalize picD X.w X.rs = P at *
      unfold F_L_great den_L_great
      walk_at "ev*"
    · refine ⟨s, ok, hn, hm, ?_⟩
      clear ok hn hm est g epic
      generalize s.sc = c at *
      unfold F_L_great den_L_great
      walk_at "ev*"
open SX (S S_len S_cat S_inj)
/-! whole numbers by their signs -/
def numS (i : Int) : List Nat := if i < 0 then 45 :: TL.numL i.natAbs else TL.numL i.natAbs
theorem numS_neg {n : Nat} (h : 1 ≤ n) : numS (-(n : Int)) = 45 :: TL.numL n := by
  unfold numS
  rw [if_pos (by omega), Int.natAbs_neg, Int.natAbs_natCast]
theorem numS_nat (n : Nat) : numS (n : Int) = TL.numL n := by
  unfold numS
  rw [if_neg (by omega), Int.natAbs_natCast]
theorem num_cases (i : Int) : (∃ n : Nat, 1 ≤ n ∧ i = -(n : Int)) ∨ ∃ n : Nat, i = (n : Int) := by
  by_cases h : i < 0
  · exact .inl ⟨i.natAbs, by omega, by omega⟩
  · exact .inr ⟨i.natAbs, by omega⟩
theorem neg_S (n : Nat) : Str.ofString (toString (-((n + 1 : Nat) : Int))) = S (45 :: TL.numL (n + 1)) := TL.ext_tl (by
  have e : (toString (-((n + 1 : Nat) : Int)) : String) = "-" ++ toString (((n + 1 : Nat)) : Int) := rfl
  have t := TL.tl_num (n + 1)
  rw [TL.tl_ofString] at t
  rw [e, TL.tl_ofString, String.toList_append, List.map_append, t]
  rfl)
theorem str_int {i : Int} (h1 : -10000000000 ≤ i) (h2 : i ≤ 10000000000) (b : Bool) (ρ : List T) : fStr [.imm b (.int i)] ρ = .ok (.imm false (txD (numS i))) ρ := by
  rcases num_cases i with ⟨n, hn, rfl⟩ | ⟨n, rfl⟩
  · obtain ⟨m, rfl⟩ : ∃ m, n = m + 1 := ⟨n - 1, by omega⟩
    rw [numS_neg hn]
    show (if (-((m + 1 : Nat) : Int)).natAbs.log2 < 1920 then ER.ok (T.imm false (.str (toString (-((m + 1 : Nat) : Int))))) ρ else ER.bad) = _
    have h2 : (-((m + 1 : Nat) : Int)).natAbs.log2 < 1920 := by
      rw [Int.natAbs_neg, Int.natAbs_natCast]
      refine log2_small (Nat.lt_of_le_of_lt (show m + 1 ≤ 10000000000 by omega) ?_)
      decide +kernel
    rw [if_pos h2]
    show ER.ok (T.imm false (.str (Str.ofString (toString (-((m + 1 : Nat) : Int)))))) ρ = _
    rw [neg_S]
    rfl
  · rw [numS_nat]
    exact str_nat n (Nat.lt_of_le_of_lt (show n ≤ 10000000000 by omega) (by decide +kernel)) b ρ
theorem numL_head {n : Nat} (h : 1 ≤ n) : ∀ c, (TL.numL n)[0]? = some c → c ≠ 48 := by
  induction n using Nat.strongRecOn with
  | _ n ih =>
    intro c hc
    by_cases h10 : n < 10
    · rw [TL.numL_lt h10] at hc
      simp at hc
      omega
    · rw [TL.numL_step (by omega), List.getElem?_append_left (List.length_pos_iff.mpr (TL.numL_ne _))] at hc
      exact ih (n / 10) (by omega) (by omega) c hc
theorem numL_len10 {n : Nat} (h : n ≤ 1000000000) : (TL.numL n).length ≤ 10 := TL.numL_len (k := 10) (by omega) (by omega)
theorem int_numS {i : Int} (h1 : -1000000000 ≤ i) (h2 : i ≤ 1000000000) (b : Bool) (ρ : List T) : fInt [.imm b (.str (S (numS i)))] ρ = .ok (.imm false (.int i)) ρ := by
  rcases num_cases i with ⟨n, hn, rfl⟩ | ⟨n, rfl⟩
  · rw [numS_neg hn]
    have hl := numL_len10 (n := n) (by omega)
    have e : PySem.intText? (S (45 :: TL.numL n)) = some (-((n : Nat) : Int)) := by
      rw [intText_neg (x := S (45 :: TL.numL n)) (cs := TL.numL n) rfl (TL.numL_digits n) (TL.numL_ne n) (by rw [S_len]; simp; omega), TL.numL_val]
    show (match PySem.intText? (S (45 :: TL.numL n)) with
      | some n' => if (S (45 :: TL.numL n)).length ≤ 640 then ER.ok (T.imm false (.int n')) ρ else .bad
      | none => .bad) = _
    rw [e]
    show (if (S (45 :: TL.numL n)).length ≤ 640 then _ else _) = _
    rw [if_pos (by rw [S_len]; simp; omega)]
  · rw [numS_nat]
    have hl := numL_len10 (n := n) (by omega)
    have q := int_fig (TL.numL n) (fun c hc => by
      have := TL.numL_digits n c hc
      unfold isDig
      rw [decide_eq_true this.1, decide_eq_true this.2]; rfl) (TL.numL_ne n) (by omega) b ρ
    rw [TL.numL_val] at q
    exact q
theorem numS_mem {i : Int} : ∀ c ∈ numS i, c = 45 ∨ 48 ≤ c ∧ c ≤ 57 := fun c hc => by
  rcases num_cases i with ⟨n, hn, rfl⟩ | ⟨n, rfl⟩
  · rw [numS_neg hn] at hc
    rcases List.mem_cons.mp hc with rfl | hc
    · exact .inl rfl
    · exact .inr (TL.numL_digits n c hc)
  · rw [numS_nat] at hc
    exact .inr (TL.numL_digits n c hc)
theorem numS_len {i : Int} (h1 : -1000000000 ≤ i) (h2 : i ≤ 1000000000) : (numS i).length ≤ 11 := by
  rcases num_cases i with ⟨n, hn, rfl⟩ | ⟨n, rfl⟩
  · rw [numS_neg hn]
    have := numL_len10 (n := n) (by omega)
    simp; omega
  · rw [numS_nat]
    have := numL_len10 (n := n) (by omega)
    omega
open SX (S S_len S_cat S_inj)
/-! whole_in of a whole number's signs -/
theorem lit_minus : ("-" : PySem.Str) = S [45] := by decide +kernel
theorem lit_zero : ("0" : PySem.Str) = S [48] := by decide +kernel
theorem comp_dig {w : List Nat} (hw : ∀ c ∈ w, 48 ≤ c ∧ c ≤ 57) (t0 t1 t2 t5 : T) (b : Bool) : ∃ t4, compL (dgName 4) dtYes (d2 (fS gInT) (dVar 4) (dC (.str (S fg10)))) [4] false (w.map sgD) [t0, t1, t2, .imm b (.str (S w)), .dead, t5] =
    .ok ((w.map fun _ => true).map D.bl) [t0, t1, t2, .imm b (.str (S w)), t4, t5] := by
  obtain ⟨ρ', e, t4, rfl⟩ := compL_mapf (f := sgD) (g := fun _ => D.bl true) (dg := dgName 4) (dt := dtYes) (de := d2 (fS gInT) (dVar 4) (dC (.str (S fg10)))) (own := [4]) (b := false) (P := fun ρ => ∃ t4, ρ = [t0, t1, t2, .imm b (.str (S w)), t4, t5])
    w [t0, t1, t2, .imm b (.str (S w)), .dead, t5] ⟨_, rfl⟩ fun c ρ hc ⟨t4, eρ⟩ => by
      subst eρ
      have e : decide (c ∈ fg10) = true := by
        have := hw c hc
        exact decide_eq_true (fg_mem.mpr (by unfold isDig; rw [decide_eq_true this.1, decide_eq_true this.2]; rfl))
      have q : gInT (sgD c) (.str (S fg10)) = some (.bl true) := by rw [v_inT_S, e]
      refine ⟨_, _, .imm false (.bl true), [t0, t1, t2, .imm b (.str (S w)), .imm false (sgD c), t5], rfl, rfl, ?_, rfl, _, rfl⟩
      clear hw e hc
      generalize sgD c = d at *
      generalize S fg10 = f at *
      walk_at "ev*"
  refine ⟨t4, ?_⟩
  rw [e, List.map_map]; rfl
theorem allT75 {α : Type} (w : List α) : (w.map fun _ => true).all id = true := by simp
theorem whole_ok {i lo hi : Int} (h1 : -1000000000 ≤ i) (h2 : i ≤ 1000000000) (g1 : lo ≤ i) (g2 : i ≤ hi) (c1 c2 c3 : Bool) : F_whole_in [.imm c1 (txD (numS i)), .imm c2 (.int lo), .imm c3 (.int hi)] = .ok (.imm false (.int i)) := by
  have l10 := lit10
  have lm := lit_minus
  have lz := lit_zero
  have ei := fun b ρ => int_numS h1 h2 b ρ
  have ln := numS_len h1 h2
  have n1 : ¬ i < lo := by omega
  have n2 : ¬ hi < i := by omega
  rcases num_cases i with ⟨n, hn, rfl⟩ | ⟨n, rfl⟩
  · rw [numS_neg hn] at *
    have hl := numL_len10 (n := n) (by omega)
    have hd := TL.numL_digits n
    have ne := List.length_pos_iff.mpr (TL.numL_ne n)
    obtain ⟨d, hd0⟩ : ∃ d, (TL.numL n)[0]? = some d := ⟨_, List.getElem?_eq_getElem ne⟩
    have d48 := numL_head hn d hd0
    have c1' : cutD (45 :: TL.numL n) none (some 1) = [45] := rfl
    have c2' : cutD (45 :: TL.numL n) (some 1) none = TL.numL n := S_inj (by
      rw [← cutS_S]
      exact (C8.cutS_slice _ _ _).trans (SX.from_app [45] (TL.numL n) rfl))
    have ia : L2.atI (TL.numL n) 0 = some d := atI_nat (j := 0) hd0
    have ga : ∀ b, gIx b (.str (S (TL.numL n))) 0 = some (.imm false (sgD d)) := fun b => by rw [v_gIx_S (by omega), ia]; rfl
    have gd : gEq (sgD d) (.str (S [48])) = some (.bl false) := by
      show gEq (.str (S [d])) (.str (S [48])) = _
      rw [v_eq_S, decide_eq_false fun z => d48 (List.cons.inj z).1]
    obtain ⟨t4, e⟩ := comp_dig hd (.imm c1 (.str (S (45 :: TL.numL n)))) (.imm c2 (.int lo)) (.imm c3 (.int hi)) .dead false
    have s1 := fun b ρ => v_fSl_S (a := 45 :: TL.numL n) (b := b) (ρ := ρ) (lo := none) (hi := some 1) (by simp; omega)
    have s2 := fun b ρ => v_fSl_S (a := 45 :: TL.numL n) (b := b) (ρ := ρ) (lo := some 1) (hi := none) (by simp; omega)
    rw [c1'] at s1
    rw [c2'] at s2
    have k1 : ¬ ((TL.numL n).length : Int) < 1 := by omega
    have k2 : ¬ 10 < ((TL.numL n).length : Int) := by omega
    have k3 := allT75 (TL.numL n)
    have k4 : (TL.numL n).length ≤ 16777216 := by omega
    have e45 : gEq (.str (S [45])) (.str (S [45])) = some (.bl true) := by rw [v_eq_S, decide_eq_true rfl]
    unfold txD
    clear hd hd0 ia c1' c2' ne ln hl d48 g1 g2 h1 h2 hn
    generalize sgD d = dd at *
    generalize 45 :: TL.numL n = W at *
    generalize ((TL.numL n).map fun _ => true) = bs at *
    generalize TL.numL n = w at *
    generalize -(n : Int) = i at *
    unfold F_whole_in den_whole_in
    walk_at "ev*"
  · rw [numS_nat] at *
    have hl := numL_len10 (n := n) (by omega)
    have hd := TL.numL_digits n
    have ne := List.length_pos_iff.mpr (TL.numL_ne n)
    obtain ⟨d, hd0⟩ : ∃ d, (TL.numL n)[0]? = some d := ⟨_, List.getElem?_eq_getElem ne⟩
    have dr := hd d (List.mem_of_getElem? hd0)
    have c1' : cutD (TL.numL n) none (some 1) = [d] := by
      obtain ⟨r, er⟩ : ∃ r, TL.numL n = d :: r := by
        cases q : TL.numL n with
        | nil => rw [q] at hd0; cases hd0
        | cons x r => rw [q] at hd0; cases hd0; exact ⟨r, rfl⟩
      rw [er]; rfl
    have ia : L2.atI (TL.numL n) 0 = some d := atI_nat (j := 0) hd0
    have ga : ∀ b, gIx b (.str (S (TL.numL n))) 0 = some (.imm false (sgD d)) := fun b => by rw [v_gIx_S (by omega), ia]; rfl
    have e45 : gEq (.str (S [d])) (.str (S [45])) = some (.bl false) := by rw [v_eq_S, decide_eq_false fun z => by have := (List.cons.inj z).1; omega]
    obtain ⟨t4, e⟩ := comp_dig hd (.imm c1 (.str (S (TL.numL n)))) (.imm c2 (.int lo)) (.imm c3 (.int hi)) .dead c1
    have s1 := fun b ρ => v_fSl_S (a := TL.numL n) (b := b) (ρ := ρ) (lo := none) (hi := some 1) (by omega)
    rw [c1'] at s1
    have k1 : ¬ ((TL.numL n).length : Int) < 1 := by omega
    have k2 : ¬ 10 < ((TL.numL n).length : Int) := by omega
    have k3 := allT75 (TL.numL n)
    have k4 : (TL.numL n).length ≤ 16777216 := by omega
    by_cases hn : n = 0
    · subst hn
      have en : TL.numL 0 = [48] := TL.numL_lt (by omega)
      have gd : gEq (sgD d) (.str (S [48])) = some (.bl true) := by
        rw [en] at hd0
        cases hd0
        show gEq (.str (S [48])) (.str (S [48])) = _
        rw [v_eq_S, decide_eq_true rfl]
      have gz : gNe (.str (S (TL.numL 0))) (.str (S [48])) = some (.bl false) := by rw [v_ne_S, decide_eq_true en]; rfl
      unfold txD
      clear hd hd0 ia c1' ne ln hl g1 g2 h1 h2 dr en
      generalize sgD d = dd at *
      generalize ((TL.numL 0).map fun _ => true) = bs at *
      generalize TL.numL 0 = w at *
      generalize ((0 : Nat) : Int) = i at *
      unfold F_whole_in den_whole_in
      walk_at "ev*"
    · have d48 := numL_head (n := n) (by omega) d hd0
      have gd : gEq (sgD d) (.str (S [48])) = some (.bl false) := by
        show gEq (.str (S [d])) (.str (S [48])) = _
        rw [v_eq_S, decide_eq_false fun z => d48 (List.cons.inj z).1]
      unfold txD
      clear hd hd0 ia c1' ne ln hl g1 g2 h1 h2 dr d48 hn
      generalize sgD d = dd at *
      generalize ((TL.numL n).map fun _ => true) = bs at *
      generalize TL.numL n = w at *
      generalize (n : Int) = i at *
      unfold F_whole_in den_whole_in
      walk_at "ev*"
open SX (S S_len S_cat S_inj)
/-! the law's drawing -/
theorem cell_bits75 {r : List Cell} (h : ∀ c ∈ r, okc c) (i : Nat) (T0 T1 T2 T5 T7 : T) : dIfE (dtVal (d2 oEq (d2 oAnd (d2 oShr (dVar 4) (dVar 6)) (dC (.int 1))) (dC (.int 1)))) (d2 oAnd (d2 oShr (dVar 3) (dFr (d2 fMul (dC (.int 4)) (dVar 6)))) (dC (.int 15))) (dC .non) [T0, T1, T2, .imm false (.int (pnt r)), .imm false (.int (msk r)), T5, .imm false (.int (i : Nat)), T7] =
    .ok (.imm false (cellD (at? r i))) [T0, T1, T2, .imm false (.int (pnt r)), .imm false (.int (msk r)), T5, .imm false (.int (i : Nat)), T7] := by
  have e1 := and_one (msk r) i
  rw [msk_bit] at e1
  have e2 : (msk r : Int) / 2 ^ i = ((msk r >>> i : Nat) : Int) := shr_nat _ _
  have e3 : (pnt r : Int) / 2 ^ (4 * (i : Int)).toNat = ((pnt r >>> (4 * i) : Nat) : Int) := by
    rw [show (4 * (i : Int)).toNat = 4 * i by omega]
    exact shr_nat _ _
  cases hc : at? r i with
  | none =>
    rw [hc] at e1
    rw [if_neg (by simp)] at e1
    clear hc
    unfold cellD
    walk_at "ev*"
  | some n =>
    rw [hc] at e1
    rw [if_pos (show (some n).isSome = true from rfl)] at e1
    have e4 : Builtin.bitAnd ((pnt r >>> (4 * i) : Nat) : Int) 15 = (n : Int) := by
      rw [show (15 : Int) = ((15 : Nat) : Int) from rfl, band_nat]
      congr 1
      have hn : n < 16 := by
        have := okc_at h i
        rw [hc] at this
        exact this
      refine Nat.eq_of_testBit_eq fun k => ?_
      rw [Nat.testBit_and, Nat.testBit_shiftRight, show (15 : Nat) = 2 ^ 4 - 1 from rfl, Nat.testBit_two_pow_sub_one]
      by_cases hk : k < 4
      · rw [decide_eq_true hk, Bool.and_true, pnt_at h i k hk, hc]; rfl
      · rw [decide_eq_false hk, Bool.and_false]
        exact (Nat.testBit_lt_two_pow (Nat.lt_of_lt_of_le hn (show 2 ^ 4 ≤ 2 ^ k from Nat.pow_le_pow_right (by omega) (by omega)))).symm
    clear hc
    unfold cellD
    walk_at "ev*"
theorem zip_pm (rs : List (List Cell)) : zpD (rs.map fun r => D.int (pnt r)) (rs.map fun r => D.int (msk r)) = rs.map fun r => D.tup [.int (pnt r), .int (msk r)] := by
  unfold zpD
  induction rs with
  | nil => rfl
  | cons r rs ih => rw [List.map_cons, List.map_cons, List.zipWith_cons_cons, ih, List.map_cons]
theorem ldraw_row {rs : List (List Cell)} {w h : Nat} (R : Rect rs w h) {a : List Cell} (ha : a.length = w ∧ ∀ c ∈ a, okc c) {A : List D} (hA : A.length ≤ 64) (t5 : T) : ∃ t5' : T,
    bd_L_drawing_1 [.imm false (picD w rs), .imm false (.str (S sg16)), .lstI A, .imm false (.int (pnt a)), .imm false (.int (msk a)), t5, .dead, .dead] =
      .next [.imm false (picD w rs), .imm false (.str (S sg16)), .lstI (A ++ [txD (a.map sgc)]), .imm false (.int (pnt a)), .imm false (.int (msk a)), t5', .dead, .dead] := by
  have w64 := R.w64
  have ld := lit_dot
  have le := lit_empty
  have comp : compL (dgName 6) dtYes (dIfE (dtVal (d2 oEq (d2 oAnd (d2 oShr (dVar 4) (dVar 6)) (dC (.int 1))) (dC (.int 1)))) (d2 oAnd (d2 oShr (dVar 3) (dFr (d2 fMul (dC (.int 4)) (dVar 6)))) (dC (.int 15))) (dC .non)) [6] false (rangeD 0 w) [.imm false (picD w rs), .imm false (.str (S sg16)), .lstI A, .imm false (.int (pnt a)), .imm false (.int (msk a)), t5, .dead, .dead] =
      .ok (a.map cellD) [.imm false (picD w rs), .imm false (.str (S sg16)), .lstI A, .imm false (.int (pnt a)), .imm false (.int (msk a)), t5, .dead, .dead] := by
    obtain ⟨ρ', e, h2⟩ := compL_range (dg := dgName 6) (dt := dtYes) (de := dIfE (dtVal (d2 oEq (d2 oAnd (d2 oShr (dVar 4) (dVar 6)) (dC (.int 1))) (dC (.int 1)))) (d2 oAnd (d2 oShr (dVar 3) (dFr (d2 fMul (dC (.int 4)) (dVar 6)))) (dC (.int 15))) (dC .non)) (own := [6]) (b := false) (lo := 0) (n := w) (f := fun i => cellD (at? a i))
      (ρ := [.imm false (picD w rs), .imm false (.str (S sg16)), .lstI A, .imm false (.int (pnt a)), .imm false (.int (msk a)), t5, .dead, .dead]) (P := fun ρ => ρ = [.imm false (picD w rs), .imm false (.str (S sg16)), .lstI A, .imm false (.int (pnt a)), .imm false (.int (msk a)), t5, .dead, .dead]) rfl fun i ρ hi eρ => by
        subst eρ
        exact ⟨_, _, .imm false (cellD (at? a i)), [.imm false (picD w rs), .imm false (.str (S sg16)), .lstI A, .imm false (.int (pnt a)), .imm false (.int (msk a)), t5, .imm false (.int (i : Nat)), .dead], by rw [Int.zero_add]; rfl, rfl, cell_bits75 ha.2 i _ _ _ _ _, rfl, rfl⟩
    rw [e, h2, ← ha.1, row_range]
  obtain ⟨ρ', e, rfl⟩ := compL_mapf (f := cellD) (g := fun x => sgD (sgc x)) (dg := dgName 7) (dt := dtYes) (de := dIfE (dtVal (d2 oIs (dVar 7) (dC .non))) (dC (.str ("." : PySem.Str))) (dIxV 1 (dVar 7))) (own := [7]) (b := false)
    (P := fun ρ => ρ = [.imm false (picD w rs), .imm false (.str (S sg16)), .lstI A, .imm false (.int (pnt a)), .imm false (.int (msk a)), .imm false (.lst (a.map cellD)), .dead, .dead])
    a [.imm false (picD w rs), .imm false (.str (S sg16)), .lstI A, .imm false (.int (pnt a)), .imm false (.int (msk a)), .imm false (.lst (a.map cellD)), .dead, .dead] rfl fun x ρ hx eρ => by
      subst eρ
      have ox := ha.2 x hx
      refine ⟨_, _, .imm false (sgD (sgc x)), [.imm false (picD w rs), .imm false (.str (S sg16)), .lstI A, .imm false (.int (pnt a)), .imm false (.int (msk a)), .imm false (.lst (a.map cellD)), .dead, .imm false (cellD x)], rfl, rfl, ?_, rfl, rfl⟩
      clear comp ha
      generalize a.map cellD = R' at *
      generalize picD w rs = Z at *
      generalize pnt a = p at *
      generalize msk a = m at *
      cases x with
      | none =>
        rw [show sgD (sgc none) = .str (S [46]) from rfl, show cellD none = .non from rfl]
        clear ox hx R
        walk_at "ev*"
      | some n =>
        have q : gIx false (.str (S sg16)) (n : Int) = some (.imm false (sgD (sg n))) := by
          rw [v_gIx_S (by decide), sg_at (show n < 16 from ox)]; rfl
        rw [show sgD (sgc (some n)) = sgD (sg n) from rfl, show cellD (some n) = .int (n : Nat) from rfl]
        clear ox hx R
        generalize sgD (sg n) = s at *
        walk_at "ev*"
  rw [← row_sg, ld] at e
  have hl2 : (a.map sgc).length ≤ 16777216 := by rw [List.length_map, ha.1]; omega
  have hj2 := fun b ρ => v_fJoin_sg (a := a.map sgc) (b := b) (ρ := ρ) hl2
  refine ⟨.imm false (.lst (a.map cellD)), ?_⟩
  have wI : (w : Int) ≤ 64 := by omega
  clear ha R hl2
  unfold txD at *
  unfold picD at *
  generalize (rs.map fun r => D.int (pnt r)) = PP at *
  generalize (rs.map fun r => D.int (msk r)) = MM at *
  generalize rs.length = n at *
  generalize (a.map sgc).map sgD = B at *
  generalize a.map sgc = B' at *
  generalize a.map cellD = C at *
  generalize pnt a = p at *
  generalize msk a = m at *
  unfold bd_L_drawing_1
  walk_at "ev*"
theorem dgl75 (a : List Cell) (T0 T1 T2 t3 t4 t5 t6 t7 : T) : dgTup (dgCons (dgName 3) (dgCons (dgName 4) dgNil)) (.imm false (.tup [.int (pnt a), .int (msk a)])) [T0, T1, T2, t3, t4, t5, t6, t7] = some [T0, T1, T2, .imm false (.int (pnt a)), .imm false (.int (msk a)), t5, t6, t7] := rfl
theorem ldraw_ok {rs : List (List Cell)} {w h : Nat} (R : Rect rs w h) : F_L_drawing [.imm false (picD w rs)] = .ok (.imm false (txD (txR rs))) := by
  have ls := lit_slash
  have l16 := lit16
  have l64 : rs.length ≤ 64 := by rw [R.len]; exact R.h64
  have hj := fun b ρ => join_tx R b ρ
  obtain ⟨ρ', e, t3, t4, t5, rfl⟩ := forL_take (f := fun r => D.tup [.int (pnt r), .int (msk r)]) (xs := rs) (dg := dgTup (dgCons (dgName 3) (dgCons (dgName 4) dgNil))) (body := bd_L_drawing_1) (b := false) (ρ := [.imm false (picD w rs), .imm false (.str (S sg16)), .lstI [], .dead, .dead, .dead, .dead, .dead])
    (P := fun l ρ => ∃ t3 t4 t5, ρ = [.imm false (picD w rs), .imm false (.str (S sg16)), .lstI (l.map fun r => txD (r.map sgc)), t3, t4, t5, .dead, .dead]) ⟨_, _, _, rfl⟩ fun l q a ρ hl ⟨t3, t4, t5, eρ⟩ => by
      subst eρ
      have ha := R.row a (by rw [hl]; simp)
      have la : (l.map fun r => txD (r.map sgc)).length ≤ 64 := by rw [hl] at l64; simp at l64 ⊢; omega
      obtain ⟨t5', e⟩ := ldraw_row R ha la t5
      refine ⟨[.imm false (picD w rs), .imm false (.str (S sg16)), .lstI (l.map fun r => txD (r.map sgc)), .imm false (.int (pnt a)), .imm false (.int (msk a)), t5, .dead, .dead], [.imm false (picD w rs), .imm false (.str (S sg16)), .lstI ((l.map fun r => txD (r.map sgc)) ++ [txD (a.map sgc)]), .imm false (.int (pnt a)), .imm false (.int (msk a)), t5', .dead, .dead], dgl75 a _ _ _ _ _ _ _ _, .inl e, .imm false (.int (pnt a)), .imm false (.int (msk a)), t5', ?_⟩
      rw [List.map_append]
      rfl
  rw [← zip_pm] at e
  have lp : (rs.map fun r => D.int (pnt r)).length ≤ 64 := by simpa using l64
  clear R l64
  unfold picD at *
  generalize (rs.map fun r => D.int (pnt r)) = PP at *
  generalize (rs.map fun r => D.int (msk r)) = MM at *
  generalize rs.length = n at *
  generalize (rs.map fun r => txD (r.map sgc)) = X at *
  generalize txD (txR rs) = Y at *
  unfold F_L_drawing den_L_drawing
  walk_at "ev*"
open SX (S S_len S_cat S_inj)
/-! the words of a scene -/
def wSt : List Nat := [115, 116, 105, 108, 108]
def wTu : List Nat := [116, 117, 114, 110]
def wPa : List Nat := [112, 97, 110, 101]
def wPi : List Nat := [112, 105, 108, 101]
mutual
def Sc.wd : Sc → List (List Nat)
  | .still X => [[40], wSt, txR X.rs, [41]]
  | .turn p s => [[40], wTu] ++ ([(p : Int)].map numS ++ (s.wd ++ [[41]]))
  | .pane x y w h s => [[40], wPa] ++ ([x, y, (w : Int), (h : Int)].map numS ++ (s.wd ++ [[41]]))
  | .pile w h ps => [[40], wPi] ++ ([(w : Int), (h : Int)].map numS ++ (ps.wds ++ [[41]]))
def Sps.wds : Sps → List (List Nat)
  | .nil => []
  | .cons rk x y dx dy s ps => ([[40]] ++ ([rk, x, y, dx, dy].map numS ++ (s.wd ++ [[41]]))) ++ ps.wds
end
def Prt.wd (q : Prt) : List (List Nat) := [[40]] ++ ([q.rk, q.x, q.y, q.dx, q.dy].map numS ++ (q.s.wd ++ [[41]]))
theorem wd_ne : ∀ s : Sc, s.wd ≠ []
  | .still X => by unfold Sc.wd; simp
  | .turn p s => by unfold Sc.wd; simp
  | .pane x y w h s => by unfold Sc.wd; simp
  | .pile w h ps => by unfold Sc.wd; simp
mutual
theorem wd_len : ∀ s : Sc, s.wd.length + 7 ≤ 15 * s.m
  | .still X => by unfold Sc.wd Sc.m; simp
  | .turn p s => by have := wd_len s; unfold Sc.wd Sc.m; simp; omega
  | .pane x y w h s => by have := wd_len s; unfold Sc.wd Sc.m; simp; omega
  | .pile w h ps => by have := wds_len ps; unfold Sc.wd Sc.m; simp; omega
theorem wds_len : ∀ ps : Sps, ps.wds.length ≤ 15 * ps.m
  | .nil => by unfold Sps.wds Sps.m; simp
  | .cons rk x y dx dy s ps => by
    have a := wd_len s
    have b := wds_len ps
    unfold Sps.wds Sps.m; simp; omega
end
/-- a word that may stand -/
def Wok (w : List Nat) : Prop := w.length ≤ 5000 ∧ ∀ c ∈ w, c ≠ 32
theorem wok_num {i : Int} (h1 : -1000000000 ≤ i) (h2 : i ≤ 1000000000) : Wok (numS i) := by
  refine ⟨by have := numS_len h1 h2; omega, fun c hc => ?_⟩
  have := numS_mem c hc
  omega
theorem wok_nums {is : List Int} (h : ∀ i ∈ is, -1000000000 ≤ i ∧ i ≤ 1000000000) : ∀ w ∈ is.map numS, Wok w := fun w hw => by
  obtain ⟨i, hi, rfl⟩ := List.mem_map.mp hw
  exact wok_num (h i hi).1 (h i hi).2
theorem wok_lit {w : List Nat} (h : w.length ≤ 5000 ∧ (w.all fun c => decide (c ≠ 32)) = true) : Wok w := ⟨h.1, fun c hc => of_decide_eq_true (List.all_eq_true.mp h.2 c hc)⟩
theorem wok_tx {rs : List (List Cell)} {w h : Nat} (R : Rect rs w h) : Wok (txR rs) := by
  refine ⟨by have := txR_len R; omega, fun c hc => ?_⟩
  refine joinL_all (P := fun c => c ≠ 32) 47 (by decide) _ (fun v hv x hx => ?_) c hc
  obtain ⟨r, hr, rfl⟩ := List.mem_map.mp hv
  obtain ⟨y, hy, rfl⟩ := List.mem_map.mp hx
  have oy := (R.row r hr).2 y hy
  have q := (sgc_mem oy).1
  intro z
  rw [z] at q
  exact absurd q (by decide)
theorem wok_app {A B : List (List Nat)} (hA : ∀ w ∈ A, Wok w) (hB : ∀ w ∈ B, Wok w) : ∀ w ∈ A ++ B, Wok w := fun w hw => by
  rcases List.mem_append.mp hw with h | h
  · exact hA w h
  · exact hB w h
theorem wok_one {w : List Nat} (h : Wok w) : ∀ v ∈ [w], Wok v := fun v hv => by rw [List.mem_singleton.mp hv]; exact h
theorem wok_two {w v : List Nat} (h : Wok w) (h2 : Wok v) : ∀ u ∈ [w, v], Wok u := wok_app (A := [w]) (B := [v]) (wok_one h) (wok_one h2)
theorem wokL : Wok [40] := wok_lit (by decide)
theorem wokR : Wok [41] := wok_lit (by decide)
mutual
theorem wd_ok : ∀ s : Sc, s.ok0 → ∀ w ∈ s.wd, Wok w
  | .still X, h => by
    unfold Sc.ok0 at h
    unfold Sc.wd
    exact wok_app (A := [[40], wSt]) (B := [txR X.rs, [41]]) (wok_two wokL (wok_lit (by decide))) (wok_two (wok_tx h) wokR)
  | .turn p s, h => by
    unfold Sc.ok0 at h
    unfold Sc.wd
    exact wok_app (wok_two wokL (wok_lit (by decide))) (wok_app (wok_nums fun i hi => by rw [List.mem_singleton.mp hi]; omega) (wok_app (wd_ok s h.2) (wok_one wokR)))
  | .pane x y w hh s, h => by
    unfold Sc.ok0 at h
    unfold Sc.wd
    exact wok_app (wok_two wokL (wok_lit (by decide))) (wok_app (wok_nums fun i hi => by
      simp only [List.mem_cons, List.not_mem_nil, or_false] at hi
      omega) (wok_app (wd_ok s h.2.2) (wok_one wokR)))
  | .pile w hh ps, h => by
    unfold Sc.ok0 at h
    unfold Sc.wd
    exact wok_app (wok_two wokL (wok_lit (by decide))) (wok_app (wok_nums fun i hi => by
      simp only [List.mem_cons, List.not_mem_nil, or_false] at hi
      omega) (wok_app (wds_ok ps h.2.2) (wok_one wokR)))
theorem wds_ok : ∀ ps : Sps, ps.ok0 → ∀ w ∈ ps.wds, Wok w
  | .nil, _, w, hw => by unfold Sps.wds at hw; simp at hw
  | .cons rk x y dx dy s ps, h, w, hw => by
    unfold Sps.ok0 at h
    unfold Sps.wds at hw
    have hb := h.1
    unfold bds at hb
    exact wok_app (wok_app (wok_one wokL) (wok_app (wok_nums (is := [rk, x, y, dx, dy]) fun i hi => by
      simp only [List.mem_cons, List.not_mem_nil, or_false] at hi
      omega) (wok_app (wd_ok s h.2.1) (wok_one wokR)))) (wds_ok ps h.2.2) w hw
end
/-! joined by blanks -/
def Jn (ws : List (List Nat)) : List Nat := TL.joinL [32] ws
def Wb (ws : List (List Nat)) : List Nat := (ws.map fun w => w ++ [32]).flatten
theorem Wb_app (A B : List (List Nat)) : Wb (A ++ B) = Wb A ++ Wb B := by unfold Wb; rw [List.map_append, List.flatten_append]
theorem Jn_cons (w : List Nat) {r : List (List Nat)} (h : r ≠ []) : Jn (w :: r) = w ++ [32] ++ Jn r := by
  cases r with
  | nil => exact absurd rfl h
  | cons v r =>
    show w ++ ([32] ++ TL.joinL [32] (v :: r)) = _
    rw [List.append_assoc]; rfl
theorem Jn_app : ∀ (A : List (List Nat)) {B : List (List Nat)}, B ≠ [] → Jn (A ++ B) = Wb A ++ Jn B
  | [], B, h => rfl
  | w :: A, B, h => by
    rw [List.cons_append, Jn_cons w (by simp [h]), Jn_app A h]
    show _ = ((w ++ [32]) :: A.map fun w => w ++ [32]).flatten ++ Jn B
    rw [List.flatten_cons]
    unfold Wb
    simp
theorem Jn_one (w : List Nat) : Jn [w] = w := rfl
theorem Wb_Jn : ∀ {A : List (List Nat)}, A ≠ [] → Wb A = Jn A ++ [32]
  | [], h => absurd rfl h
  | [w], _ => by unfold Wb; rw [Jn_one]; simp
  | w :: v :: r, _ => by
    rw [Jn_cons w (by simp)]
    have ih := Wb_Jn (A := v :: r) (by simp)
    show ((w ++ [32]) :: (v :: r).map fun w => w ++ [32]).flatten = _
    rw [List.flatten_cons, show ((v :: r).map fun w => w ++ [32]).flatten = Wb (v :: r) from rfl, ih]
    simp
theorem Jn_snoc {A : List (List Nat)} (h : A ≠ []) (w : List Nat) : Jn (A ++ [w]) = Jn A ++ [32] ++ w := by
  rw [Jn_app A (by simp), Wb_Jn h, Jn_one]
theorem Wb_len {ws : List (List Nat)} (h : ∀ w ∈ ws, Wok w) : (Wb ws).length ≤ 5001 * ws.length := by
  induction ws with
  | nil => simp [Wb]
  | cons w ws ih =>
    have h1 := (h w (by simp)).1
    have h2 := ih fun v hv => h v (by simp [hv])
    show (((w ++ [32]) :: ws.map fun w => w ++ [32]).flatten).length ≤ _
    rw [List.flatten_cons, List.length_append, show ((ws.map fun w => w ++ [32]).flatten) = Wb ws from rfl, List.length_append]
    simp only [List.length_cons, List.length_nil]
    omega
theorem Jn_len {ws : List (List Nat)} (h : ∀ w ∈ ws, Wok w) : (Jn ws).length ≤ 5001 * ws.length := by
  by_cases e : ws = []
  · rw [e]; simp [Jn, TL.joinL]
  · have := Wb_len h
    rw [Wb_Jn e, List.length_append] at this
    omega
theorem wd_Jlen {s : Sc} (h : s.ok0) (hm : s.m ≤ 60) : (Jn s.wd).length ≤ 5001 * 900 := by
  have a := Jn_len (wd_ok s h)
  have b := wd_len s
  have : 5001 * s.wd.length ≤ 5001 * 900 := Nat.mul_le_mul_left _ (by omega)
  omega
theorem wds_Wlen {ps : Sps} (h : ps.ok0) (hm : ps.m ≤ 60) : (Wb ps.wds).length ≤ 5001 * 900 := by
  have a := Wb_len (wds_ok ps h)
  have b := wds_len ps
  have : 5001 * ps.wds.length ≤ 5001 * 900 := Nat.mul_le_mul_left _ (by omega)
  omega
theorem sp_wd {s : Sc} (h : s.ok0) : sp 32 (Jn s.wd) = s.wd := sp_join 32 _ (wd_ne s) fun w hw => (wd_ok s h w hw).2
theorem Jn_still (X : Pc) : Jn (Sc.still X).wd = [40, 32, 115, 116, 105, 108, 108, 32] ++ txR X.rs ++ [32, 41] := by
  unfold Sc.wd
  rw [show [[40], wSt, txR X.rs, [41]] = [[40], wSt] ++ ([txR X.rs] ++ [[41]]) from rfl, Jn_app _ (by simp), Jn_snoc (by simp), Jn_one, show Wb [[40], wSt] = [40, 32, 115, 116, 105, 108, 108, 32] from rfl]
  simp
theorem Jn_turn (p : Nat) (s : Sc) : Jn (Sc.turn p s).wd = [40, 32, 116, 117, 114, 110, 32] ++ Wb ([(p : Int)].map numS) ++ Jn s.wd ++ [32, 41] := by
  rw [show (Sc.turn p s).wd = [[40], wTu] ++ ([(p : Int)].map numS ++ (s.wd ++ [[41]])) by rw [Sc.wd]]
  rw [Jn_app _ (by simp), Jn_app _ (by simp), Jn_snoc (wd_ne s), show Wb [[40], wTu] = [40, 32, 116, 117, 114, 110, 32] from rfl]
  simp
theorem Jn_pane (x y : Int) (w h : Nat) (s : Sc) : Jn (Sc.pane x y w h s).wd = [40, 32, 112, 97, 110, 101, 32] ++ Wb ([x, y, (w : Int), (h : Int)].map numS) ++ Jn s.wd ++ [32, 41] := by
  rw [show (Sc.pane x y w h s).wd = [[40], wPa] ++ ([x, y, (w : Int), (h : Int)].map numS ++ (s.wd ++ [[41]])) by rw [Sc.wd]]
  rw [Jn_app _ (by simp), Jn_app _ (by simp), Jn_snoc (wd_ne s), show Wb [[40], wPa] = [40, 32, 112, 97, 110, 101, 32] from rfl]
  simp
theorem Jn_pile (w h : Nat) (ps : Sps) : Jn (Sc.pile w h ps).wd = [40, 32, 112, 105, 108, 101, 32] ++ Wb ([(w : Int), (h : Int)].map numS) ++ Wb ps.wds ++ [41] := by
  unfold Sc.wd
  rw [Jn_app _ (by simp), Jn_app _ (by simp), Jn_app _ (by simp), Jn_one, show Wb [[40], wPi] = [40, 32, 112, 105, 108, 101, 32] from rfl]
  simp
theorem Wb_part (q : Prt) : Wb q.wd = [40, 32] ++ Wb ([q.rk, q.x, q.y, q.dx, q.dy].map numS) ++ Jn q.s.wd ++ [32, 41, 32] := by
  unfold Prt.wd
  rw [Wb_app, Wb_app, Wb_app, Wb_Jn (wd_ne q.s), show Wb [[40]] = [40, 32] from rfl, show Wb [[41]] = [41, 32] from rfl]
  simp
theorem wds_eq : ∀ ps : Sps, ps.wds = (ps.toL.map Prt.wd).flatten
  | .nil => by unfold Sps.wds Sps.toL; rfl
  | .cons rk x y dx dy s ps => by
    unfold Sps.wds Sps.toL
    rw [List.map_cons (f := Prt.wd), List.flatten_cons, ← wds_eq ps]; rfl
theorem Wb_flat : ∀ L : List (List (List Nat)), Wb L.flatten = (L.map Wb).flatten
  | [] => rfl
  | A :: L => by rw [List.flatten_cons, Wb_app, Wb_flat L]; rfl
open SX (S S_len S_cat S_inj)
/-! the law's words -/
theorem lit_L : ("(" : PySem.Str) = S [40] := by decide +kernel
theorem lit_R : (")" : PySem.Str) = S [41] := by decide +kernel
theorem lit_st : ("still" : PySem.Str) = S wSt := by decide +kernel
theorem lit_tu : ("turn" : PySem.Str) = S wTu := by decide +kernel
theorem lit_pa : ("pane" : PySem.Str) = S wPa := by decide +kernel
theorem lit_pi : ("pile" : PySem.Str) = S wPi := by decide +kernel
theorem comp_num {is : List Int} (h : ∀ i ∈ is, -1000000000 ≤ i ∧ i ≤ 1000000000) (t0 t1 t2 t3 t4 : T) (b : Bool) : ∃ t2', compL (dgName 2) dtYes (dBi fStr (dCons (dVar 2) dNil)) [2] b (is.map D.int) [t0, t1, t2, t3, t4] = .ok ((is.map numS).map txD) [t0, t1, t2', t3, t4] := by
  obtain ⟨ρ', e, t2', rfl⟩ := compL_mapf (f := D.int) (g := fun i => txD (numS i)) (dg := dgName 2) (dt := dtYes) (de := dBi fStr (dCons (dVar 2) dNil)) (own := [2]) (b := b) (P := fun ρ => ∃ t2, ρ = [t0, t1, t2, t3, t4])
    is [t0, t1, t2, t3, t4] ⟨_, rfl⟩ fun i ρ hi ⟨t2, eρ⟩ => by
      subst eρ
      have hb := h i hi
      have q := fun b ρ => str_int (i := i) (by omega) (by omega) b ρ
      refine ⟨_, _, .imm false (txD (numS i)), [t0, t1, .imm b (.int i), t3, t4], rfl, rfl, ?_, rfl, _, rfl⟩
      clear hb hi h
      generalize txD (numS i) = X at *
      walk_at "ev*"
  refine ⟨t2', ?_⟩
  rw [e, List.map_map]; rfl
theorem lword_part {n : Nat} {q : Prt} (hb : bds q.rk q.x q.y q.dx q.dy) (e : Fr_L_words n [.imm false q.s.sc] = .ok (.lstI (q.s.wd.map txD))) (t0 t1 t2 : T) {A : List D} (hA : A.length ≤ 2000) (hq : q.s.wd.length ≤ 1000) : ∃ t2' : T,
    bd_L_words_1 (Fr_L_words n) [t0, t1, t2, .lstI A, .imm false q.sc] = .next [t0, t1, t2', .lstI (A ++ q.wd.map txD), .imm false q.sc] := by
  have lL := lit_L
  have lR := lit_R
  obtain ⟨t2', ec⟩ := comp_num (is := [q.rk, q.x, q.y, q.dx, q.dy]) (fun i hi => by
    unfold bds at hb
    simp only [List.mem_cons, List.not_mem_nil, or_false] at hi
    omega) t0 t1 .dead (.imm false (.lst A)) (.imm false q.sc) false
  refine ⟨.dead, ?_⟩
  have cu := cut5' (.int q.rk) (.int q.x) (.int q.y) (.int q.dx) (.int q.dy) q.s.sc
  have lw : (q.s.wd.map txD).length ≤ 1000 := by rw [List.length_map]; exact hq
  have l5 : (([q.rk, q.x, q.y, q.dx, q.dy].map numS).map txD).length = 5 := rfl
  rw [show [q.rk, q.x, q.y, q.dx, q.dy].map D.int = [.int q.rk, .int q.x, .int q.y, .int q.dx, .int q.dy] from rfl] at ec
  rw [show q.wd.map txD = [txD [40]] ++ (([q.rk, q.x, q.y, q.dx, q.dy].map numS).map txD ++ (q.s.wd.map txD ++ [txD [41]])) by unfold Prt.wd; simp only [List.map_append]; rfl]
  clear hb hq
  unfold Prt.sc at *
  generalize (([q.rk, q.x, q.y, q.dx, q.dy].map numS).map txD) = N at *
  generalize q.s.wd.map txD = W at *
  generalize Fr_L_words n = F at *
  generalize q.s.sc = c at *
  generalize q.rk = rk at *
  generalize q.x = x at *
  generalize q.y = y at *
  generalize q.dx = dx at *
  generalize q.dy = dy at *
  unfold txD
  unfold bd_L_words_1
  walk_at "ev*"
  simp only [List.append_assoc, List.cons_append, List.nil_append]
mutual
theorem lwords_ok : ∀ (s : Sc) (n : Nat), s.n < n → s.ok0 → s.m ≤ 60 → Fr_L_words n [.imm false s.sc] = .ok (.lstI (s.wd.map txD))
  | .still X, n, hn, ok, hm => by
    obtain ⟨m, rfl⟩ : ∃ m, n = m + 1 := ⟨n - 1, by omega⟩
    unfold Sc.ok0 at ok
    have ed := ldraw_ok (rs := X.rs) ok
    have lL := lit_L
    have lR := lit_R
    have ls := lit_st
    rw [show (Sc.still X).sc = .tup [.str ("still" : PySem.Str), picD X.w X.rs] by rw [Sc.sc], show (Sc.still X).wd.map txD = [txD [40], txD wSt, txD (txR X.rs), txD [41]] by rw [Sc.wd]; rfl]
    show mkFn 5 1 (den_L_words (Fr_L_words m)) _ = _
    clear ok hn hm
    generalize picD X.w X.rs = P at *
    generalize txR X.rs = Y at *
    unfold txD at *
    unfold den_L_words
    walk_at "ev*"
  | .turn p s, n, hn, ok, hm => by
    unfold Sc.n at hn
    unfold Sc.ok0 at ok
    unfold Sc.m at hm
    obtain ⟨m, rfl⟩ : ∃ m, n = m + 1 := ⟨n - 1, by omega⟩
    have ih := lwords_ok s m (by omega) ok.2 (by omega)
    have wl := wd_len s
    have lw : (s.wd.map txD).length ≤ 1000 := by rw [List.length_map]; omega
    obtain ⟨t2, ec⟩ := comp_num (is := [(p : Int)]) (fun i hi => by rw [List.mem_singleton.mp hi]; omega) (.imm false (.tup [.str ("turn" : PySem.Str), .int (p : Nat), s.sc])) .dead .dead .dead .dead false
    have lL := lit_L
    have lR := lit_R
    have n1 := nes2
    have n2 := nes6
    have l5 : (([(p : Int)].map numS).map txD).length = 1 := rfl
    have cu : cutD [.str ("turn" : PySem.Str), .int (p : Nat), s.sc] (some 1) (some 2) = [D.int (p : Nat)] := rfl
    rw [show (Sc.turn p s).sc = .tup [.str ("turn" : PySem.Str), .int (p : Nat), s.sc] by rw [Sc.sc]]
    rw [show (Sc.turn p s).wd.map txD = [txD [40], .str ("turn" : PySem.Str)] ++ (([(p : Int)].map numS).map txD ++ (s.wd.map txD ++ [txD [41]])) by rw [Sc.wd, lit_tu]; simp only [List.map_append]; rfl]
    rw [show [(p : Int)].map D.int = [.int (p : Nat)] from rfl] at ec
    show mkFn 5 1 (den_L_words (Fr_L_words m)) _ = _
    clear ok hn hm wl
    generalize (([(p : Int)].map numS).map txD) = N at *
    generalize s.wd.map txD = W at *
    generalize s.sc = c at *
    unfold txD at *
    unfold den_L_words
    walk_at "ev*"
    simp only [List.append_assoc]
  | .pane x y w h s, n, hn, ok, hm => by
    unfold Sc.n at hn
    unfold Sc.ok0 at ok
    unfold Sc.m at hm
    obtain ⟨m, rfl⟩ : ∃ m, n = m + 1 := ⟨n - 1, by omega⟩
    have ih := lwords_ok s m (by omega) ok.2.2 (by omega)
    have wl := wd_len s
    have lw : (s.wd.map txD).length ≤ 1000 := by rw [List.length_map]; omega
    obtain ⟨t2, ec⟩ := comp_num (is := [x, y, (w : Int), (h : Int)]) (fun i hi => by
      simp only [List.mem_cons, List.not_mem_nil, or_false] at hi
      omega) (.imm false (.tup [.str ("pane" : PySem.Str), .int x, .int y, .int (w : Nat), .int (h : Nat), s.sc])) .dead .dead .dead .dead false
    have lL := lit_L
    have lR := lit_R
    have n1 := nes3
    have n2 := nes7
    have l5 : (([x, y, (w : Int), (h : Int)].map numS).map txD).length = 4 := rfl
    have cu : cutD [.str ("pane" : PySem.Str), .int x, .int y, .int (w : Nat), .int (h : Nat), s.sc] (some 1) (some 5) = [D.int x, .int y, .int (w : Nat), .int (h : Nat)] := rfl
    rw [show (Sc.pane x y w h s).sc = .tup [.str ("pane" : PySem.Str), .int x, .int y, .int (w : Nat), .int (h : Nat), s.sc] by rw [Sc.sc]]
    rw [show (Sc.pane x y w h s).wd.map txD = [txD [40], .str ("pane" : PySem.Str)] ++ (([x, y, (w : Int), (h : Int)].map numS).map txD ++ (s.wd.map txD ++ [txD [41]])) by rw [Sc.wd, lit_pa]; simp only [List.map_append]; rfl]
    rw [show [x, y, (w : Int), (h : Int)].map D.int = [.int x, .int y, .int (w : Nat), .int (h : Nat)] from rfl] at ec
    show mkFn 5 1 (den_L_words (Fr_L_words m)) _ = _
    clear ok hn hm wl
    generalize (([x, y, (w : Int), (h : Int)].map numS).map txD) = N at *
    generalize s.wd.map txD = W at *
    generalize s.sc = c at *
    unfold txD at *
    unfold den_L_words
    walk_at "ev*"
    simp only [List.append_assoc]
  | .pile w h ps, n, hn, ok, hm => by
    unfold Sc.n at hn
    unfold Sc.ok0 at ok
    unfold Sc.m at hm
    obtain ⟨m, rfl⟩ : ∃ m, n = m + 1 := ⟨n - 1, by omega⟩
    have wl := wds_len ps
    obtain ⟨t2, t4, e⟩ := lwordss_ok ps m (by omega) ok.2.2 (by omega) (.imm false (.tup [.str ("pile" : PySem.Str), .int (w : Nat), .int (h : Nat), .tup ps.scs])) .dead .dead .dead ([txD [40], .str ("pile" : PySem.Str), txD (numS w), txD (numS h)]) (by simp; omega)
    have lw : (ps.wds.map txD).length ≤ 1000 := by rw [List.length_map]; omega
    have lL := lit_L
    have lR := lit_R
    have n1 := nep
    have s1 := fun b ρ => str_int (i := (w : Int)) (by omega) (by omega) b ρ
    have s2 := fun b ρ => str_int (i := (h : Int)) (by omega) (by omega) b ρ
    rw [show (Sc.pile w h ps).sc = .tup [.str ("pile" : PySem.Str), .int (w : Nat), .int (h : Nat), .tup ps.scs] by rw [Sc.sc]]
    rw [show (Sc.pile w h ps).wd.map txD = [txD [40], .str ("pile" : PySem.Str), txD (numS w), txD (numS h)] ++ ps.wds.map txD ++ [txD [41]] by rw [Sc.wd, lit_pi]; simp only [List.map_append, List.append_assoc]; rfl]
    show mkFn 5 1 (den_L_words (Fr_L_words m)) _ = _
    clear ok hn hm wl
    generalize ps.wds.map txD = W at *
    generalize ps.scs = Z at *
    generalize numS (w : Int) = nw at *
    generalize numS (h : Int) = nh at *
    unfold txD at *
    unfold den_L_words
    walk_at "ev*"
theorem lwordss_ok : ∀ (ps : Sps) (n : Nat), ps.n < n → ps.ok0 → ps.m ≤ 60 → ∀ (t0 t1 t2 t4 : T) (A : List D), A.length + 15 * ps.m ≤ 2000 → ∃ t2' t4' : T,
    forL (dgName 4) (bd_L_words_1 (Fr_L_words n)) false ps.scs [t0, t1, t2, .lstI A, t4] = .next [t0, t1, t2', .lstI (A ++ ps.wds.map txD), t4']
  | .nil, n, _, _, _, t0, t1, t2, t4, A, _ => ⟨t2, t4, by rw [Sps.scs, Sps.wds, List.map_nil, List.append_nil]; rfl⟩
  | .cons rk x y dx dy s ps, n, hn, ok, hm, t0, t1, t2, t4, A, hA => by
    unfold Sps.n at hn
    unfold Sps.ok0 at ok
    unfold Sps.m at hm hA
    have ih := lwords_ok s n (by omega) ok.2.1 (by omega)
    have wl := wd_len s
    obtain ⟨t2', e⟩ := lword_part (q := ⟨rk, x, y, dx, dy, s⟩) ok.1 ih t0 t1 t2 (A := A) (by omega) (by show s.wd.length ≤ 1000; omega)
    have lq : (Prt.wd ⟨rk, x, y, dx, dy, s⟩).length = s.wd.length + 7 := by unfold Prt.wd; simp
    obtain ⟨u2, u4, e2⟩ := lwordss_ok ps n (by omega) ok.2.2 (by omega) t0 t1 t2' (.imm false (Prt.sc ⟨rk, x, y, dx, dy, s⟩)) (A ++ (Prt.wd ⟨rk, x, y, dx, dy, s⟩).map txD) (by rw [List.length_append, List.length_map, lq]; omega)
    refine ⟨u2, u4, ?_⟩
    rw [show (Sps.cons rk x y dx dy s ps).scs = Prt.sc ⟨rk, x, y, dx, dy, s⟩ :: ps.scs by rw [Sps.scs]; first | done | rfl, show (Sps.cons rk x y dx dy s ps).wds = Prt.wd ⟨rk, x, y, dx, dy, s⟩ ++ ps.wds by rw [Sps.wds]; first | done | rfl, List.map_append, ← List.append_assoc]
    unfold forL
    simp only [show dgName 4 (.imm false (Prt.sc ⟨rk, x, y, dx, dy, s⟩)) [t0, t1, t2, .lstI A, t4] = some [t0, t1, t2, .lstI A, .imm false (Prt.sc ⟨rk, x, y, dx, dy, s⟩)] from rfl, e, e2]
end
open SX (S S_len S_cat S_inj)
/-! the text of a scene -/
theorem lit_t1 : ("( still " : PySem.Str) = S [40, 32, 115, 116, 105, 108, 108, 32] := by decide +kernel
theorem lit_t2 : (" )" : PySem.Str) = S [32, 41] := by decide +kernel
theorem lit_t3 : ("( turn " : PySem.Str) = S [40, 32, 116, 117, 114, 110, 32] := by decide +kernel
theorem lit_t4 : ("( pane " : PySem.Str) = S [40, 32, 112, 97, 110, 101, 32] := by decide +kernel
theorem lit_t5 : ("( pile " : PySem.Str) = S [40, 32, 112, 105, 108, 101, 32] := by decide +kernel
theorem lit_t6 : ("( " : PySem.Str) = S [40, 32] := by decide +kernel
theorem lit_t7 : (" ) " : PySem.Str) = S [32, 41, 32] := by decide +kernel
theorem flat_len : ∀ L : List (List Nat), (L.map (·.length)).sum = L.flatten.length
  | [] => rfl
  | w :: L => by rw [List.map_cons, List.sum_cons, flat_len L, List.flatten_cons, List.length_append]
theorem join_nil {ws : List (List Nat)} (h : ws.flatten.length ≤ 16777216) (b : Bool) (ρ : List T) : fJoin (S []) (.imm b (.lst (ws.map txD))) ρ = .ok (.imm false (txD ws.flatten)) ρ := by
  rw [fJoin_S (by rw [flat_len]; simpa using h), joinL_nil]; rfl
theorem add_S {x y : List Nat} (h : x.length + y.length ≤ 16777216) (b1 b2 : Bool) (ρ : List T) : fAdd (.imm b1 (.str (S x))) (.imm b2 (.str (S y))) ρ = .ok (.imm false (.str (S (x ++ y)))) ρ := v_add_S h
theorem words_of_ok {is : List Int} (h : ∀ i ∈ is, -1000000000 ≤ i ∧ i ≤ 1000000000) (hl : is.length ≤ 5) : F_words_of [.imm false (.tup (is.map D.int))] = .ok (.imm false (.str (S (Wb (is.map numS))))) := by
  have le := lit_empty
  have lb := lit_blank
  obtain ⟨ρ', e, t1, rfl⟩ := compL_mapf (f := D.int) (g := fun i => txD (numS i ++ [32])) (dg := dgName 1) (dt := dtYes) (de := d2 fAdd (dBi fStr (dCons (dVar 1) dNil)) (dC (.str (S [32])))) (own := [1]) (b := false) (P := fun ρ => ∃ t1, ρ = [.imm false (.tup (is.map D.int)), t1])
    is [.imm false (.tup (is.map D.int)), .dead] ⟨_, rfl⟩ fun i ρ hi ⟨t1, eρ⟩ => by
      subst eρ
      have hb := h i hi
      have q := fun b ρ => str_int (i := i) (by omega) (by omega) b ρ
      have ln := numS_len hb.1 hb.2
      have a1 := fun b1 b2 ρ => add_S (x := numS i) (y := [32]) (by simp; omega) b1 b2 ρ
      refine ⟨_, _, .imm false (txD (numS i ++ [32])), [.imm false (.tup (is.map D.int)), .imm false (.int i)], rfl, rfl, ?_, rfl, _, rfl⟩
      clear hb hi h hl ln
      unfold txD at *
      generalize numS i ++ [32] = Y at *
      generalize numS i = X at *
      generalize is.map D.int = Z at *
      walk_at "ev*"
  have ef : (is.map fun i => txD (numS i ++ [32])) = ((is.map numS).map fun w => w ++ [32]).map txD := by rw [List.map_map, List.map_map]; rfl
  rw [ef] at e
  have wl : (Wb (is.map numS)).length ≤ 5001 * 5 := by
    have := Wb_len (wok_nums h)
    rw [List.length_map] at this
    omega
  have hj := fun b ρ => join_nil (ws := (is.map numS).map fun w => w ++ [32]) (by show (Wb (is.map numS)).length ≤ _; omega) b ρ
  rw [show ((is.map numS).map fun w => w ++ [32]).flatten = Wb (is.map numS) from rfl] at hj
  clear h wl ef hl
  unfold txD at *
  generalize (List.map (fun l => D.str (S l)) ((is.map numS).map fun w => w ++ [32])) = Y at *
  generalize Wb (is.map numS) = X at *
  generalize is.map D.int = Z at *
  unfold F_words_of den_words_of
  walk_at "ev*"
theorem nums_len {is : List Int} (h : ∀ i ∈ is, -1000000000 ≤ i ∧ i ≤ 1000000000) (hl : is.length ≤ 5) : (Wb (is.map numS)).length ≤ 5001 * 5 := by
  have := Wb_len (wok_nums h)
  rw [List.length_map] at this
  omega
theorem stext_still {X : Pc} (ok : X.G) (m : Nat) : Fr_scene_text (m + 1) [.imm false (Sc.still X).sc] = .ok (.imm false (.str (S (Jn (Sc.still X).wd)))) := by
  have ed := drawing_of_ok (rs := X.rs) ok false
  have lt := txR_len (rs := X.rs) ok
  have l1 := lit_t1
  have l2 := lit_t2
  have a1 := fun b1 b2 ρ => add_S (x := [40, 32, 115, 116, 105, 108, 108, 32]) (y := txR X.rs) (by simp; omega) b1 b2 ρ
  have a2 := fun b1 b2 ρ => add_S (x := [40, 32, 115, 116, 105, 108, 108, 32] ++ txR X.rs) (y := [32, 41]) (by simp; omega) b1 b2 ρ
  rw [Jn_still, show (Sc.still X).sc = .tup [.str ("still" : PySem.Str), picD X.w X.rs] by rw [Sc.sc]]
  show mkFn 3 1 (den_scene_text (Fr_scene_text m)) _ = _
  clear ok lt
  generalize [40, 32, 115, 116, 105, 108, 108, 32] ++ txR X.rs ++ [32, 41] = Z at *
  generalize [40, 32, 115, 116, 105, 108, 108, 32] ++ txR X.rs = Y at *
  generalize [40, 32, 115, 116, 105, 108, 108, 32] = L1 at *
  generalize [32, 41] = L2 at *
  generalize txR X.rs = R at *
  generalize picD X.w X.rs = P at *
  unfold txD at *
  unfold den_scene_text
  walk_at "ev*"
theorem stext_turn {p : Nat} {s : Sc} {m : Nat} (hp : p < 8) (lj : (Jn s.wd).length ≤ 5001 * 900) (ih : Fr_scene_text m [.imm false s.sc] = .ok (.imm false (.str (S (Jn s.wd))))) :
    Fr_scene_text (m + 1) [.imm false (Sc.turn p s).sc] = .ok (.imm false (.str (S (Jn (Sc.turn p s).wd)))) := by
  have hb : ∀ i ∈ [(p : Int)], -1000000000 ≤ i ∧ i ≤ 1000000000 := fun i hi => by rw [List.mem_singleton.mp hi]; omega
  have ew := words_of_ok hb (by simp)
  have lw := nums_len hb (by simp)
  have l1 := lit_t3
  have l2 := lit_t2
  have n1 := nes2
  have cu : cutD [.str ("turn" : PySem.Str), .int (p : Nat), s.sc] (some 1) (some 2) = [D.int (p : Nat)] := rfl
  rw [Jn_turn, show (Sc.turn p s).sc = .tup [.str ("turn" : PySem.Str), .int (p : Nat), s.sc] by rw [Sc.sc]]
  rw [show [(p : Int)].map D.int = [.int (p : Nat)] from rfl] at ew
  generalize Wb ([(p : Int)].map numS) = W at *
  generalize Jn s.wd = J at *
  have a1 := fun b1 b2 ρ => add_S (x := [40, 32, 116, 117, 114, 110, 32]) (y := W) (by simp; omega) b1 b2 ρ
  have a2 := fun b1 b2 ρ => add_S (x := [40, 32, 116, 117, 114, 110, 32] ++ W) (y := J) (by simp; omega) b1 b2 ρ
  have a3 := fun b1 b2 ρ => add_S (x := [40, 32, 116, 117, 114, 110, 32] ++ W ++ J) (y := [32, 41]) (by simp; omega) b1 b2 ρ
  show mkFn 3 1 (den_scene_text (Fr_scene_text m)) _ = _
  clear hb lw lj hp
  generalize [40, 32, 116, 117, 114, 110, 32] ++ W ++ J ++ [32, 41] = Z at *
  generalize [40, 32, 116, 117, 114, 110, 32] ++ W ++ J = Y at *
  generalize [40, 32, 116, 117, 114, 110, 32] ++ W = V at *
  generalize [40, 32, 116, 117, 114, 110, 32] = L1 at *
  generalize [32, 41] = L2 at *
  generalize s.sc = c at *
  unfold den_scene_text
  walk_at "ev*"
theorem stext_pane {x y : Int} {w h : Nat} {s : Sc} {m : Nat} (hb : ∀ i ∈ [x, y, (w : Int), (h : Int)], -1000000000 ≤ i ∧ i ≤ 1000000000) (lj : (Jn s.wd).length ≤ 5001 * 900) (ih : Fr_scene_text m [.imm false s.sc] = .ok (.imm false (.str (S (Jn s.wd))))) :
    Fr_scene_text (m + 1) [.imm false (Sc.pane x y w h s).sc] = .ok (.imm false (.str (S (Jn (Sc.pane x y w h s).wd)))) := by
  have ew := words_of_ok hb (by simp)
  have lw := nums_len hb (by simp)
  have l1 := lit_t4
  have l2 := lit_t2
  have n1 := nes3
  have n2 := nes4
  have cu : cutD [.str ("pane" : PySem.Str), .int x, .int y, .int (w : Nat), .int (h : Nat), s.sc] (some 1) (some 5) = [D.int x, .int y, .int (w : Nat), .int (h : Nat)] := rfl
  rw [Jn_pane, show (Sc.pane x y w h s).sc = .tup [.str ("pane" : PySem.Str), .int x, .int y, .int (w : Nat), .int (h : Nat), s.sc] by rw [Sc.sc]]
  rw [show [x, y, (w : Int), (h : Int)].map D.int = [.int x, .int y, .int (w : Nat), .int (h : Nat)] from rfl] at ew
  generalize Wb ([x, y, (w : Int), (h : Int)].map numS) = W at *
  generalize Jn s.wd = J at *
  have a1 := fun b1 b2 ρ => add_S (x := [40, 32, 112, 97, 110, 101, 32]) (y := W) (by simp; omega) b1 b2 ρ
  have a2 := fun b1 b2 ρ => add_S (x := [40, 32, 112, 97, 110, 101, 32] ++ W) (y := J) (by simp; omega) b1 b2 ρ
  have a3 := fun b1 b2 ρ => add_S (x := [40, 32, 112, 97, 110, 101, 32] ++ W ++ J) (y := [32, 41]) (by simp; omega) b1 b2 ρ
  show mkFn 3 1 (den_scene_text (Fr_scene_text m)) _ = _
  clear hb lw lj
  generalize [40, 32, 112, 97, 110, 101, 32] ++ W ++ J ++ [32, 41] = Z at *
  generalize [40, 32, 112, 97, 110, 101, 32] ++ W ++ J = Y at *
  generalize [40, 32, 112, 97, 110, 101, 32] ++ W = V at *
  generalize [40, 32, 112, 97, 110, 101, 32] = L1 at *
  generalize [32, 41] = L2 at *
  generalize s.sc = c at *
  unfold den_scene_text
  walk_at "ev*"
theorem stext_parts {m : Nat} {L : List Prt} (hb : ∀ q ∈ L, bds q.rk q.x q.y q.dx q.dy ∧ (Jn q.s.wd).length ≤ 5001 * 900 ∧ Fr_scene_text m [.imm false q.s.sc] = .ok (.imm false (.str (S (Jn q.s.wd))))) (t0 : T) :
    ∃ t2, compL (dgName 2) dtYes (d2 fAdd (d2 fAdd (d2 fAdd (dC (.str (S [40, 32]))) (dFr (dCall F_words_of [] (dCons (dFr (dSl (dVar 2) doNone (doSome (dC (.int 5))))) dNil)))) (dFr (dCall (Fr_scene_text m) [] (dCons (dIxV 2 (dC (.int 5))) dNil)))) (dC (.str (S [32, 41, 32])))) [2] false (L.map Prt.sc) [t0, .dead, .dead] =
      .ok ((L.map fun q => Wb q.wd).map txD) [t0, .dead, t2] := by
  obtain ⟨ρ', e, t2, rfl⟩ := compL_mapf (f := Prt.sc) (g := fun q => txD (Wb q.wd)) (dg := dgName 2) (dt := dtYes) (de := d2 fAdd (d2 fAdd (d2 fAdd (dC (.str (S [40, 32]))) (dFr (dCall F_words_of [] (dCons (dFr (dSl (dVar 2) doNone (doSome (dC (.int 5))))) dNil)))) (dFr (dCall (Fr_scene_text m) [] (dCons (dIxV 2 (dC (.int 5))) dNil)))) (dC (.str (S [32, 41, 32])))) (own := [2]) (b := false) (P := fun ρ => ∃ t2, ρ = [t0, .dead, t2])
    L [t0, .dead, .dead] ⟨_, rfl⟩ fun q ρ hq ⟨t2, eρ⟩ => by
      subst eρ
      obtain ⟨hd, lj, ih⟩ := hb q hq
      have hi : ∀ i ∈ [q.rk, q.x, q.y, q.dx, q.dy], -1000000000 ≤ i ∧ i ≤ 1000000000 := fun i hi => by
        unfold bds at hd
        simp only [List.mem_cons, List.not_mem_nil, or_false] at hi
        omega
      have ew := words_of_ok hi (by simp)
      have lw := nums_len hi (by simp)
      have cu := cut5' (.int q.rk) (.int q.x) (.int q.y) (.int q.dx) (.int q.dy) q.s.sc
      refine ⟨_, _, .imm false (txD (Wb q.wd)), [t0, .dead, .imm false q.sc], rfl, rfl, ?_, rfl, _, rfl⟩
      rw [Wb_part]
      rw [show [q.rk, q.x, q.y, q.dx, q.dy].map D.int = [.int q.rk, .int q.x, .int q.y, .int q.dx, .int q.dy] from rfl] at ew
      unfold Prt.sc txD
      generalize Wb ([q.rk, q.x, q.y, q.dx, q.dy].map numS) = W at *
      generalize Jn q.s.wd = J at *
      have a1 := fun b1 b2 ρ => add_S (x := [40, 32]) (y := W) (by simp; omega) b1 b2 ρ
      have a2 := fun b1 b2 ρ => add_S (x := [40, 32] ++ W) (y := J) (by simp; omega) b1 b2 ρ
      have a3 := fun b1 b2 ρ => add_S (x := [40, 32] ++ W ++ J) (y := [32, 41, 32]) (by simp; omega) b1 b2 ρ
      clear hb hq hd hi lw lj
      generalize [40, 32] ++ W ++ J ++ [32, 41, 32] = Z at *
      generalize [40, 32] ++ W ++ J = Y at *
      generalize [40, 32] ++ W = V at *
      generalize [40, 32] = L1 at *
      generalize [32, 41, 32] = L2 at *
      generalize q.s.sc = c at *
      generalize q.rk = rk at *
      generalize q.x = x at *
      generalize q.y = y at *
      generalize q.dx = dx at *
      generalize q.dy = dy at *
      generalize Fr_scene_text m = F at *
      walk_at "ev*"
  refine ⟨t2, ?_⟩
  rw [e, List.map_map]; rfl
theorem stext_pile {w h : Nat} {ps : Sps} {m : Nat} (hi : ∀ i ∈ [(w : Int), (h : Int)], -1000000000 ≤ i ∧ i ≤ 1000000000) (lj : (Wb ps.wds).length ≤ 5001 * 900)
    (hb : ∀ q ∈ ps.toL, bds q.rk q.x q.y q.dx q.dy ∧ (Jn q.s.wd).length ≤ 5001 * 900 ∧ Fr_scene_text m [.imm false q.s.sc] = .ok (.imm false (.str (S (Jn q.s.wd))))) :
    Fr_scene_text (m + 1) [.imm false (Sc.pile w h ps).sc] = .ok (.imm false (.str (S (Jn (Sc.pile w h ps).wd)))) := by
  have ew := words_of_ok hi (by simp)
  have lw := nums_len hi (by simp)
  have l1 := lit_t5
  have l2 := lit_R
  have l3 := lit_t6
  have l4 := lit_t7
  have le := lit_empty
  have n1 := nep
  have n2 := nep2
  have n3 := nep3
  have l5 := lit_t1
  have cu : cutD [.str ("pile" : PySem.Str), .int (w : Nat), .int (h : Nat), .tup ps.scs] (some 1) (some 3) = [D.int (w : Nat), .int (h : Nat)] := rfl
  obtain ⟨t2, e⟩ := stext_parts hb (.imm false (.tup [.str ("pile" : PySem.Str), .int (w : Nat), .int (h : Nat), .tup ps.scs]))
  rw [← scs_eq] at e
  have ef : (ps.toL.map fun q => Wb q.wd).flatten = Wb ps.wds := by rw [wds_eq, Wb_flat, List.map_map]; rfl
  have hj := fun b ρ => join_nil (ws := ps.toL.map fun q => Wb q.wd) (by rw [ef]; omega) b ρ
  rw [ef] at hj
  rw [Jn_pile, show (Sc.pile w h ps).sc = .tup [.str ("pile" : PySem.Str), .int (w : Nat), .int (h : Nat), .tup ps.scs] by rw [Sc.sc]]
  rw [show [(w : Int), (h : Int)].map D.int = [.int (w : Nat), .int (h : Nat)] from rfl] at ew
  clear ef hb hi
  unfold txD at *
  generalize Wb ([(w : Int), (h : Int)].map numS) = W at *
  generalize Wb ps.wds = J at *
  generalize (List.map (fun l => D.str (S l)) (ps.toL.map fun q => Wb q.wd)) = TT at *
  have a1 := fun b1 b2 ρ => add_S (x := [40, 32, 112, 105, 108, 101, 32]) (y := W) (by simp; omega) b1 b2 ρ
  have a2 := fun b1 b2 ρ => add_S (x := [40, 32, 112, 105, 108, 101, 32] ++ W) (y := J) (by simp; omega) b1 b2 ρ
  have a3 := fun b1 b2 ρ => add_S (x := [40, 32, 112, 105, 108, 101, 32] ++ W ++ J) (y := [41]) (by simp; omega) b1 b2 ρ
  show mkFn 3 1 (den_scene_text (Fr_scene_text m)) _ = _
  clear lw lj
  generalize [40, 32, 112, 105, 108, 101, 32] ++ W ++ J ++ [41] = Z at *
  generalize [40, 32, 112, 105, 108, 101, 32] ++ W ++ J = Y at *
  generalize [40, 32, 112, 105, 108, 101, 32] ++ W = V at *
  generalize [40, 32, 112, 105, 108, 101, 32] = L1 at *
  generalize [32, 41, 32] = L7 at *
  generalize [40, 32] = L6 at *
  generalize [41] = L2 at *
  generalize ps.scs = c at *
  unfold den_scene_text
  walk_at "ev*"
mutual
theorem stext_ok : ∀ (s : Sc) (n : Nat), s.n < n → s.ok0 → s.m ≤ 60 → Fr_scene_text n [.imm false s.sc] = .ok (.imm false (.str (S (Jn s.wd))))
  | .still X, n, hn, ok, hm => by
    obtain ⟨m, rfl⟩ : ∃ m, n = m + 1 := ⟨n - 1, by omega⟩
    unfold Sc.ok0 at ok
    exact stext_still ok m
  | .turn p s, n, hn, ok, hm => by
    unfold Sc.n at hn
    unfold Sc.ok0 at ok
    unfold Sc.m at hm
    obtain ⟨m, rfl⟩ : ∃ m, n = m + 1 := ⟨n - 1, by omega⟩
    exact stext_turn ok.1 (wd_Jlen ok.2 (by omega)) (stext_ok s m (by omega) ok.2 (by omega))
  | .pane x y w h s, n, hn, ok, hm => by
    unfold Sc.n at hn
    unfold Sc.ok0 at ok
    unfold Sc.m at hm
    obtain ⟨m, rfl⟩ : ∃ m, n = m + 1 := ⟨n - 1, by omega⟩
    refine stext_pane (fun i hi => ?_) (wd_Jlen ok.2.2 (by omega)) (stext_ok s m (by omega) ok.2.2 (by omega))
    simp only [List.mem_cons, List.not_mem_nil, or_false] at hi
    omega
  | .pile w h ps, n, hn, ok, hm => by
    unfold Sc.n at hn
    unfold Sc.ok0 at ok
    unfold Sc.m at hm
    obtain ⟨m, rfl⟩ : ∃ m, n = m + 1 := ⟨n - 1, by omega⟩
    refine stext_pile (fun i hi => ?_) (wds_Wlen ok.2.2 (by omega)) (stexts_ok ps m (by omega) ok.2.2 (by omega))
    simp only [List.mem_cons, List.not_mem_nil, or_false] at hi
    omega
theorem stexts_ok : ∀ (ps : Sps) (n : Nat), ps.n < n → ps.ok0 → ps.m ≤ 60 → ∀ q ∈ ps.toL, bds q.rk q.x q.y q.dx q.dy ∧ (Jn q.s.wd).length ≤ 5001 * 900 ∧ Fr_scene_text n [.imm false q.s.sc] = .ok (.imm false (.str (S (Jn q.s.wd))))
  | .nil, n, _, _, _, q, hq => by unfold Sps.toL at hq; simp at hq
  | .cons rk x y dx dy s ps, n, hn, ok, hm, q, hq => by
    unfold Sps.n at hn
    unfold Sps.ok0 at ok
    unfold Sps.m at hm
    unfold Sps.toL at hq
    have a := stext_ok s n (by omega) ok.2.1 (by omega)
    have b := stexts_ok ps n (by omega) ok.2.2 (by omega)
    rcases List.mem_cons.mp hq with rfl | hq
    · exact ⟨ok.1, wd_Jlen (s := s) ok.2.1 (by omega), a⟩
    · exact b q hq
end
open SX (S S_len S_cat S_inj)
/-! the reader of words -/
def nsR : List Str := [("signs" : PySem.Str), ("here" : PySem.Str), ("begun" : PySem.Str)]
def RdO (ws : List (List Nat)) (i g : Int) : T := .obj 16 nsR [.imm false (.lst (ws.map txD)), .imm false (.int i), .imm false (.int g)]
theorem rd_rules : (∀ (ws : List (List Nat)) (a g : Int) (i : Nat) (ρ : List T), fldo i ("signs" : PySem.Str) obOk_signs ρ (some (RdO ws a g)) = .ok (.imm false (.lst (ws.map txD))) (ρ.set i (RdO ws a g))) ∧
    (∀ (ws : List (List Nat)) (a g : Int) (i : Nat) (ρ : List T), fldo i ("here" : PySem.Str) obOk_here ρ (some (RdO ws a g)) = .ok (.imm false (.int a)) (ρ.set i (RdO ws a g))) ∧
    (∀ (ws : List (List Nat)) (a g : Int) (i : Nat) (ρ : List T), fldo i ("begun" : PySem.Str) obOk_begun ρ (some (RdO ws a g)) = .ok (.imm false (.int g)) (ρ.set i (RdO ws a g))) ∧
    (∀ (ws : List (List Nat)) (a g x : Int) (i : Nat) (ρ : List T), putk i ("here" : PySem.Str) obOk_here (.imm false (.int x)) ρ (some (RdO ws a g)) = .next (ρ.set i (RdO ws x g))) ∧
    (∀ (ws : List (List Nat)) (a g x : Int) (i : Nat) (ρ : List T), putk i ("begun" : PySem.Str) obOk_begun (.imm false (.int x)) ρ (some (RdO ws a g)) = .next (ρ.set i (RdO ws a x))) ∧
    (∀ (ws : List (List Nat)) (a g : Int) (i : Nat) (Fn : FnT) (ds : List D) (ts ρ : List T), metho i ("due_word" : PySem.Str) 16 Fn ds ts ρ (some (RdO ws a g)) = afterO i ρ (Fn (RdO ws a g :: (ts ++ ds.map (T.imm false))))) ∧
    (∀ (ws : List (List Nat)) (a g : Int) (i : Nat) (Fn : FnT) (ds : List D) (ts ρ : List T), metho i ("take" : PySem.Str) 16 Fn ds ts ρ (some (RdO ws a g)) = afterO i ρ (Fn (RdO ws a g :: (ts ++ ds.map (T.imm false))))) ∧
    (∀ (ws : List (List Nat)) (a g : Int) (i : Nat) (Fn : FnT) (ds : List D) (ts ρ : List T), metho i ("take_whole" : PySem.Str) 16 Fn ds ts ρ (some (RdO ws a g)) = afterO i ρ (Fn (RdO ws a g :: (ts ++ ds.map (T.imm false))))) ∧
    (∀ (ws : List (List Nat)) (a g : Int) (i : Nat) (Fn : FnT) (ds : List D) (ts ρ : List T), metho i ("take_picture" : PySem.Str) 16 Fn ds ts ρ (some (RdO ws a g)) = afterO i ρ (Fn (RdO ws a g :: (ts ++ ds.map (T.imm false))))) ∧
    (∀ (ws : List (List Nat)) (a g : Int) (i : Nat) (Fn : FnT) (ds : List D) (ts ρ : List T), metho i ("take_scene" : PySem.Str) 16 Fn ds ts ρ (some (RdO ws a g)) = afterO i ρ (Fn (RdO ws a g :: (ts ++ ds.map (T.imm false))))) ∧
    (∀ (ws : List (List Nat)) (a g : Int) (i : Nat) (Fn : FnT) (ds : List D) (ts ρ : List T), metho i ("take_parts" : PySem.Str) 16 Fn ds ts ρ (some (RdO ws a g)) = afterO i ρ (Fn (RdO ws a g :: (ts ++ ds.map (T.imm false))))) ∧
    (∀ (ws : List (List Nat)) (a g : Int), isO ("take" : PySem.Str) 16 (some (RdO ws a g)) = true) ∧
    (∀ (ws : List (List Nat)) (a g : Int), isO ("take_whole" : PySem.Str) 16 (some (RdO ws a g)) = true) ∧
    (∀ (ws : List (List Nat)) (a g : Int), isO ("take_scene" : PySem.Str) 16 (some (RdO ws a g)) = true) ∧
    (∀ (ws : List (List Nat)) (a g : Int), isO ("take_parts" : PySem.Str) 16 (some (RdO ws a g)) = true) :=
  ⟨fun _ _ _ _ _ => v_fldo (by decide) (show ixF _ nsR = some 0 by decide) rfl, fun _ _ _ _ _ => v_fldo (by decide) (show ixF _ nsR = some 1 by decide) rfl, fun _ _ _ _ _ => v_fldo (by decide) (show ixF _ nsR = some 2 by decide) rfl,
    fun _ _ _ _ _ _ => v_putk (by decide) (show ixF _ nsR = some 1 by decide) (show 1 < 3 by decide), fun _ _ _ _ _ _ => v_putk (by decide) (show ixF _ nsR = some 2 by decide) (show 2 < 3 by decide),
    fun _ _ _ _ _ _ _ _ => meth_ok (by decide), fun _ _ _ _ _ _ _ _ => meth_ok (by decide), fun _ _ _ _ _ _ _ _ => meth_ok (by decide), fun _ _ _ _ _ _ _ _ => meth_ok (by decide), fun _ _ _ _ _ _ _ _ => meth_ok (by decide), fun _ _ _ _ _ _ _ _ => meth_ok (by decide),
    fun _ _ _ => isO_ok (by decide), fun _ _ _ => isO_ok (by decide), fun _ _ _ => isO_ok (by decide), fun _ _ _ => isO_ok (by decide)⟩
theorem w_mkFnX {N m : Nat} {body : DS} {ts : List T} : mkFnX N m body ts = if ts.length = m then finX m (body (ts ++ List.replicate (N - m) .dead)) else .bad := rfl
theorem drop_at {α : Type} {ws : List α} {i : Nat} {w : α} {r : List α} (h : ws.drop i = w :: r) : i < ws.length ∧ ws[i]? = some w ∧ ws.drop (i + 1) = r := by
  have h1 : i < ws.length := by
    by_cases c : i < ws.length
    · exact c
    · rw [List.drop_of_length_le (by omega)] at h; cases h
  refine ⟨h1, ?_, ?_⟩
  · have := congrArg (fun l => l[0]?) h
    simpa using this
  · rw [← List.tail_drop, h]; rfl
theorem drop_pre {α : Type} {ws a r : List α} {i : Nat} (h : ws.drop i = a ++ r) : ws.drop (i + a.length) = r := by
  rw [← List.drop_drop, h, List.drop_left]
theorem rd_at {ws : List (List Nat)} {i : Nat} {w : List Nat} (h : ws[i]? = some w) : L2.atI (ws.map txD) (i : Int) = some (.str (S w)) := atI_nat (by rw [List.getElem?_map, h]; rfl)
theorem due_ok {ws : List (List Nat)} {i : Nat} {g : Int} {w : List Nat} {r : List (List Nat)} (h : ws.drop i = w :: r) (hl : ws.length ≤ 100000) : F_Reader_due_word [RdO ws i g] = .okm (.imm false (.str (S w))) [RdO ws i g] := by
  have R := rd_rules
  obtain ⟨h1, h2, _⟩ := drop_at h
  have ix := rd_at h2
  have ne : ¬ (i : Int) = (ws.length : Int) := by omega
  have l2 : (ws.map txD).length ≤ 100000 := by rw [List.length_map]; exact hl
  clear h h1 h2 hl
  unfold F_Reader_due_word
  rw [w_mkFnX]
  unfold den_Reader_due_word
  walk_at "ev*"
  rfl
theorem take_ok {ws : List (List Nat)} {i : Nat} {g : Int} {w : List Nat} {r : List (List Nat)} (h : ws.drop i = w :: r) (hl : ws.length ≤ 100000) {d : D} {c : Bool} (hq : gNinU (.str (S w)) d = some (.bl false)) :
    F_Reader_take [RdO ws i g, .imm c d] = .okm (.imm false (.str (S w))) [RdO ws ((i + 1 : Nat) : Int) g, .imm c d] := by
  have R := rd_rules
  have e := due_ok (g := g) h hl
  rw [show ((i + 1 : Nat) : Int) = (i : Int) + 1 from rfl]
  clear h hl
  unfold F_Reader_take
  rw [w_mkFnX]
  unfold den_Reader_take
  walk_at "ev*"
  rfl
theorem take_whole_ok {ws : List (List Nat)} {i : Nat} {g : Int} {x lo hi : Int} {r : List (List Nat)} (h : ws.drop i = numS x :: r) (hl : ws.length ≤ 100000) (h1 : -1000000000 ≤ x) (h2 : x ≤ 1000000000) (g1 : lo ≤ x) (g2 : x ≤ hi) (c1 c2 : Bool) :
    F_Reader_take_whole [RdO ws i g, .imm c1 (.int lo), .imm c2 (.int hi)] = .okm (.imm false (.int x)) [RdO ws ((i + 1 : Nat) : Int) g, .imm c1 (.int lo), .imm c2 (.int hi)] := by
  have R := rd_rules
  have e := due_ok (g := g) h hl
  have q := fun c1 c2 c3 => whole_ok h1 h2 g1 g2 c1 c2 c3
  unfold txD at q
  rw [show ((i + 1 : Nat) : Int) = (i : Int) + 1 from rfl]
  clear h hl h1 h2 g1 g2
  generalize numS x = w at *
  unfold F_Reader_take_whole
  rw [w_mkFnX]
  unfold den_Reader_take_whole
  walk_at "ev*"
  rfl
theorem take_picture_ok {ws : List (List Nat)} {i : Nat} {g : Int} {X : Pc} {r : List (List Nat)} (h : ws.drop i = txR X.rs :: r) (hl : ws.length ≤ 100000) (hX : X.G) :
    F_Reader_take_picture [RdO ws i g] = .okm (.imm false (picD X.w X.rs)) [RdO ws ((i + 1 : Nat) : Int) g] := by
  have R := rd_rules
  have e := due_ok (g := g) h hl
  obtain ⟨q1, q2, q3⟩ := gd_txR (rs := X.rs) hX
  have lt := txR_len (rs := X.rs) hX
  have q := fun b => read_ok (a := txR X.rs) (by omega) q1 b
  rw [q2, q3] at q
  have hp : (picD X.w X.rs).isNon = false := rfl
  rw [show ((i + 1 : Nat) : Int) = (i : Int) + 1 from rfl]
  clear h hl q1 q2 q3 lt hX
  generalize txR X.rs = w at *
  generalize picD X.w X.rs = P at *
  unfold F_Reader_take_picture
  rw [w_mkFnX]
  unfold den_Reader_take_picture
  walk_at "ev*"
  rfl
open SX (S S_len S_cat S_inj)
/-! scenes read -/
def KD : D := .tup [.str ("still" : PySem.Str), .str ("turn" : PySem.Str), .str ("pane" : PySem.Str), .str ("pile" : PySem.Str)]
def PD : D := .tup [.str ("(" : PySem.Str), .str (")" : PySem.Str)]
def CD : D := .tup [.str (")" : PySem.Str)]
theorem kin {s : Str} {ds : List D} {ts : List Str} (h : strsD ds = some ts) (hs : decide (s ∈ ts) = true) : gNinU (.str s) (.tup ds) = some (.bl false) := by
  rw [v_gNinU h, hs]; rfl
theorem kin1 : gNinU (.str (S wSt)) KD = some (.bl false) := by rw [← lit_st]; exact kin rfl (by decide +kernel)
theorem kin2 : gNinU (.str (S wTu)) KD = some (.bl false) := by rw [← lit_tu]; exact kin rfl (by decide +kernel)
theorem kin3 : gNinU (.str (S wPa)) KD = some (.bl false) := by rw [← lit_pa]; exact kin rfl (by decide +kernel)
theorem kin4 : gNinU (.str (S wPi)) KD = some (.bl false) := by rw [← lit_pi]; exact kin rfl (by decide +kernel)
theorem kin5 : gNinU (.str (S [40])) PD = some (.bl false) := by rw [← lit_L]; exact kin rfl (by decide +kernel)
theorem kin6 : gNinU (.str (S [41])) PD = some (.bl false) := by rw [← lit_R]; exact kin rfl (by decide +kernel)
theorem kin7 : gNinU (.str (S [41])) CD = some (.bl false) := by rw [← lit_R]; exact kin rfl (by decide +kernel)
theorem neLR : ¬ ((")" : PySem.Str) = ("(" : PySem.Str)) := by decide
/-- what the reader tells of a scene that stands at i -/
def TSc (n : Nat) (s : Sc) : Prop := ∀ (ws : List (List Nat)) (i g deep : Nat) (r : List (List Nat)), ws.length ≤ 100000 → deep + s.n ≤ 12 → g + s.m ≤ 60 → ws.drop i = s.wd ++ r →
  ∃ os, Fr_Reader_take_scene n [RdO ws i g, .imm false (.int (deep : Nat))] = .okm (.imm false s.sc) (RdO ws ((i + s.wd.length : Nat) : Int) ((g + s.m : Nat) : Int) :: os)
theorem tscene_still {X : Pc} {n : Nat} (hX : X.G) : TSc (n + 1) (.still X) := by
  intro ws i g deep r hl hd hg h
  have R := rd_rules
  unfold Sc.n at hd
  unfold Sc.m at hg
  rw [show (Sc.still X).wd = [[40], wSt, txR X.rs, [41]] by rw [Sc.wd]] at h ⊢
  rw [show (Sc.still X).m = 1 by rw [Sc.m], show (Sc.still X).sc = .tup [.str ("still" : PySem.Str), picD X.w X.rs] by rw [Sc.sc]]
  have h1 := (drop_at h).2.2
  have h2 := (drop_at h1).2.2
  have h3 := (drop_at h2).2.2
  have lL := lit_L
  have e0 : F_Reader_due_word [RdO ws (i : Int) (g : Int)] = _ := due_ok h hl
  have e1 : F_Reader_take [RdO ws ((i : Int) + 1) ((g : Int) + 1), .imm false KD] = .okm (.imm false (.str (S wSt))) [RdO ws ((i + 2 : Nat) : Int) ((g : Int) + 1), .imm false KD] := take_ok (i := i + 1) h1 hl kin1
  have e2 : F_Reader_take_picture [RdO ws ((i + 2 : Nat) : Int) ((g : Int) + 1)] = .okm (.imm false (picD X.w X.rs)) [RdO ws ((i + 3 : Nat) : Int) ((g : Int) + 1)] := take_picture_ok (i := i + 2) h2 hl hX
  have e3 : F_Reader_take [RdO ws ((i + 3 : Nat) : Int) ((g : Int) + 1), .imm false CD] = .okm (.imm false (.str (S [41]))) [RdO ws ((i + 4 : Nat) : Int) ((g : Int) + 1), .imm false CD] := take_ok (i := i + 3) h3 hl kin7
  rw [← lit_st] at e1
  rw [← lit_R] at e3
  rw [← lit_L] at e0
  have d12 : ¬ (12 : Int) < (deep : Int) := by omega
  have g60 : ¬ (g : Int) = 60 := by omega
  refine ⟨[.imm false (.int (deep : Nat))], ?_⟩
  rw [show i + [[40], wSt, txR X.rs, [41]].length = i + 4 from rfl, show ((g + 1 : Nat) : Int) = (g : Int) + 1 from rfl]
  show mkFnX 7 2 (den_Reader_take_scene (Fr_Reader_take_parts n) (Fr_Reader_take_scene n)) _ = _
  rw [w_mkFnX]
  unfold KD CD at *
  clear h h1 h2 h3 hl hd hg hX lL
  generalize ((i + 2 : Nat) : Int) = a2 at *
  generalize ((i + 3 : Nat) : Int) = a3 at *
  generalize ((i + 4 : Nat) : Int) = a4 at *
  generalize picD X.w X.rs = P at *
  unfold den_Reader_take_scene
  walk_at "ev*"
  rfl
open SX (S S_len S_cat S_inj)
theorem tscene_turn {p : Nat} {s : Sc} {n : Nat} (hp : p < 8) (ih : TSc n s) : TSc (n + 1) (.turn p s) := by
  intro ws i g deep r hl hd hg h
  have R := rd_rules
  unfold Sc.n at hd
  unfold Sc.m at hg
  rw [show (Sc.turn p s).wd = [[40], wTu] ++ ([(p : Int)].map numS ++ (s.wd ++ [[41]])) by rw [Sc.wd]] at h ⊢
  rw [show (Sc.turn p s).m = s.m + 1 by rw [Sc.m], show (Sc.turn p s).sc = .tup [.str ("turn" : PySem.Str), .int (p : Nat), s.sc] by rw [Sc.sc]]
  replace h : ws.drop i = [40] :: wTu :: numS (p : Int) :: (s.wd ++ ([41] :: r)) := by rw [h]; simp
  have h1 := (drop_at h).2.2
  have h2 := (drop_at h1).2.2
  have h3 := (drop_at h2).2.2
  have h4 := drop_pre h3
  have lL := lit_L
  obtain ⟨os, e3⟩ := ih ws (i + 3) (g + 1) (deep + 1) _ hl (by omega) (by omega) h3
  have e0 : F_Reader_due_word [RdO ws (i : Int) (g : Int)] = _ := due_ok h hl
  have e1 : F_Reader_take [RdO ws ((i : Int) + 1) ((g : Int) + 1), .imm false KD] = .okm (.imm false (.str (S wTu))) [RdO ws ((i + 2 : Nat) : Int) ((g : Int) + 1), .imm false KD] := take_ok (i := i + 1) h1 hl kin2
  have e2 : F_Reader_take_whole [RdO ws ((i + 2 : Nat) : Int) ((g : Int) + 1), .imm false (.int 0), .imm false (.int 7)] = .okm (.imm false (.int (p : Nat))) [RdO ws ((i + 3 : Nat) : Int) ((g : Int) + 1), .imm false (.int 0), .imm false (.int 7)] := take_whole_ok (i := i + 2) h2 hl (by omega) (by omega) (by omega) (by omega) false false
  have e4 : F_Reader_take [RdO ws ((i + 3 + s.wd.length : Nat) : Int) ((g + 1 + s.m : Nat) : Int), .imm false CD] = .okm (.imm false (.str (S [41]))) [RdO ws ((i + 3 + s.wd.length + 1 : Nat) : Int) ((g + 1 + s.m : Nat) : Int), .imm false CD] := take_ok (i := i + 3 + s.wd.length) h4 hl kin7
  rw [← lit_tu] at e1
  rw [← lit_R] at e4
  rw [← lit_L] at e0
  rw [show ((g + 1 : Nat) : Int) = (g : Int) + 1 from rfl, show ((deep + 1 : Nat) : Int) = (deep : Int) + 1 from rfl] at e3
  have d12 : ¬ (12 : Int) < (deep : Int) := by omega
  have g60 : ¬ (g : Int) = 60 := by omega
  have n1 := nes2
  refine ⟨[.imm false (.int (deep : Nat))], ?_⟩
  have hL : ([[40], wTu] ++ ([(p : Int)].map numS ++ (s.wd ++ [[41]]))).length = s.wd.length + 4 := by simp
  rw [hL, show i + (s.wd.length + 4) = i + 3 + s.wd.length + 1 by omega, show g + (s.m + 1) = g + 1 + s.m by omega]
  show mkFnX 7 2 (den_Reader_take_scene (Fr_Reader_take_parts n) (Fr_Reader_take_scene n)) _ = _
  rw [w_mkFnX]
  unfold KD CD at *
  clear hL h h1 h2 h3 h4 hl hd hg hp lL ih
  generalize ((i + 2 : Nat) : Int) = a2 at *
  generalize ((i + 3 : Nat) : Int) = a3 at *
  generalize ((i + 3 + s.wd.length + 1 : Nat) : Int) = a5 at *
  generalize ((i + 3 + s.wd.length : Nat) : Int) = a4 at *
  generalize ((g + 1 + s.m : Nat) : Int) = g1 at *
  generalize s.sc = c at *
  unfold den_Reader_take_scene
  walk_at "ev*"
  rfl
theorem tscene_pane {x y : Int} {w hh : Nat} {s : Sc} {n : Nat} (hx : -1000000000 ≤ x ∧ x ≤ 1000000000 ∧ -1000000000 ≤ y ∧ y ≤ 1000000000) (hw : 1 ≤ w ∧ w ≤ 64 ∧ 1 ≤ hh ∧ hh ≤ 64) (ih : TSc n s) : TSc (n + 1) (.pane x y w hh s) := by
  intro ws i g deep r hl hd hg h
  have R := rd_rules
  unfold Sc.n at hd
  unfold Sc.m at hg
  rw [show (Sc.pane x y w hh s).wd = [[40], wPa] ++ ([x, y, (w : Int), (hh : Int)].map numS ++ (s.wd ++ [[41]])) by rw [Sc.wd]] at h ⊢
  rw [show (Sc.pane x y w hh s).m = s.m + 1 by rw [Sc.m], show (Sc.pane x y w hh s).sc = .tup [.str ("pane" : PySem.Str), .int x, .int y, .int (w : Nat), .int (hh : Nat), s.sc] by rw [Sc.sc]]
  replace h : ws.drop i = [40] :: wPa :: numS x :: numS y :: numS (w : Int) :: numS (hh : Int) :: (s.wd ++ ([41] :: r)) := by rw [h]; simp
  have h1 := (drop_at h).2.2
  have h2 := (drop_at h1).2.2
  have h3 := (drop_at h2).2.2
  have h4 := (drop_at h3).2.2
  have h5 := (drop_at h4).2.2
  have h6 := (drop_at h5).2.2
  have h7 := drop_pre h6
  have lL := lit_L
  obtain ⟨os, e6⟩ := ih ws (i + 6) (g + 1) (deep + 1) _ hl (by omega) (by omega) h6
  have e0 : F_Reader_due_word [RdO ws (i : Int) (g : Int)] = _ := due_ok h hl
  have e1 : F_Reader_take [RdO ws ((i : Int) + 1) ((g : Int) + 1), .imm false KD] = .okm (.imm false (.str (S wPa))) [RdO ws ((i + 2 : Nat) : Int) ((g : Int) + 1), .imm false KD] := take_ok (i := i + 1) h1 hl kin3
  have e2 : F_Reader_take_whole [RdO ws ((i + 2 : Nat) : Int) ((g : Int) + 1), .imm false (.int (-1000000000)), .imm false (.int 1000000000)] = .okm (.imm false (.int x)) [RdO ws ((i + 3 : Nat) : Int) ((g : Int) + 1), .imm false (.int (-1000000000)), .imm false (.int 1000000000)] := take_whole_ok (i := i + 2) h2 hl (by omega) (by omega) (by omega) (by omega) false false
  have e3 : F_Reader_take_whole [RdO ws ((i + 3 : Nat) : Int) ((g : Int) + 1), .imm false (.int (-1000000000)), .imm false (.int 1000000000)] = .okm (.imm false (.int y)) [RdO ws ((i + 4 : Nat) : Int) ((g : Int) + 1), .imm false (.int (-1000000000)), .imm false (.int 1000000000)] := take_whole_ok (i := i + 3) h3 hl (by omega) (by omega) (by omega) (by omega) false false
  have e4 : F_Reader_take_whole [RdO ws ((i + 4 : Nat) : Int) ((g : Int) + 1), .imm false (.int 1), .imm false (.int 64)] = .okm (.imm false (.int (w : Nat))) [RdO ws ((i + 5 : Nat) : Int) ((g : Int) + 1), .imm false (.int 1), .imm false (.int 64)] := take_whole_ok (i := i + 4) h4 hl (by omega) (by omega) (by omega) (by omega) false false
  have e5 : F_Reader_take_whole [RdO ws ((i + 5 : Nat) : Int) ((g : Int) + 1), .imm false (.int 1), .imm false (.int 64)] = .okm (.imm false (.int (hh : Nat))) [RdO ws ((i + 6 : Nat) : Int) ((g : Int) + 1), .imm false (.int 1), .imm false (.int 64)] := take_whole_ok (i := i + 5) h5 hl (by omega) (by omega) (by omega) (by omega) false false
  have e7 : F_Reader_take [RdO ws ((i + 6 + s.wd.length : Nat) : Int) ((g + 1 + s.m : Nat) : Int), .imm false CD] = .okm (.imm false (.str (S [41]))) [RdO ws ((i + 6 + s.wd.length + 1 : Nat) : Int) ((g + 1 + s.m : Nat) : Int), .imm false CD] := take_ok (i := i + 6 + s.wd.length) h7 hl kin7
  rw [← lit_pa] at e1
  rw [← lit_R] at e7
  rw [← lit_L] at e0
  rw [show ((g + 1 : Nat) : Int) = (g : Int) + 1 from rfl, show ((deep + 1 : Nat) : Int) = (deep : Int) + 1 from rfl] at e6
  have d12 : ¬ (12 : Int) < (deep : Int) := by omega
  have g60 : ¬ (g : Int) = 60 := by omega
  have n1 := nes3
  have n2 := nes4
  refine ⟨[.imm false (.int (deep : Nat))], ?_⟩
  have hL : ([[40], wPa] ++ ([x, y, (w : Int), (hh : Int)].map numS ++ (s.wd ++ [[41]]))).length = s.wd.length + 7 := by simp
  rw [hL, show i + (s.wd.length + 7) = i + 6 + s.wd.length + 1 by omega, show g + (s.m + 1) = g + 1 + s.m by omega]
  show mkFnX 7 2 (den_Reader_take_scene (Fr_Reader_take_parts n) (Fr_Reader_take_scene n)) _ = _
  rw [w_mkFnX]
  unfold KD CD at *
  clear hL h h1 h2 h3 h4 h5 h6 h7 hl hd hg hx hw lL ih
  generalize ((i + 2 : Nat) : Int) = a2 at *
  generalize ((i + 3 : Nat) : Int) = a3 at *
  generalize ((i + 4 : Nat) : Int) = a4 at *
  generalize ((i + 5 : Nat) : Int) = a5 at *
  generalize ((i + 6 : Nat) : Int) = a6 at *
  generalize ((i + 6 + s.wd.length + 1 : Nat) : Int) = a8 at *
  generalize ((i + 6 + s.wd.length : Nat) : Int) = a7 at *
  generalize ((g + 1 + s.m : Nat) : Int) = g1 at *
  generalize s.sc = c at *
  generalize (w : Int) = w at *
  generalize (hh : Int) = hh at *
  unfold den_Reader_take_scene
  walk_at "ev*"
  rfl
/-- what the reader tells of a pile's parts, from which the first bracket is due -/
def TPs (n : Nat) (ps : Sps) : Prop := ∀ (ws : List (List Nat)) (i g deep : Nat) (r : List (List Nat)), ws.length ≤ 100000 → deep + ps.n ≤ 12 → g + ps.m ≤ 60 → ws.drop i = ps.wds ++ ([41] :: r) →
  ∃ os, Fr_Reader_take_parts n [RdO ws i g, .imm false (.int (deep : Nat))] = .okm (.imm false (.tup ps.scs)) (RdO ws ((i + ps.wds.length + 1 : Nat) : Int) ((g + ps.m : Nat) : Int) :: os)
theorem tscene_pile {w hh : Nat} {ps : Sps} {n : Nat} (hw : 1 ≤ w ∧ w ≤ 64 ∧ 1 ≤ hh ∧ hh ≤ 64) (ih : TPs n ps) : TSc (n + 1) (.pile w hh ps) := by
  intro ws i g deep r hl hd hg h
  have R := rd_rules
  unfold Sc.n at hd
  unfold Sc.m at hg
  rw [show (Sc.pile w hh ps).wd = [[40], wPi] ++ ([(w : Int), (hh : Int)].map numS ++ (ps.wds ++ [[41]])) by rw [Sc.wd]] at h ⊢
  rw [show (Sc.pile w hh ps).m = ps.m + 1 by rw [Sc.m], show (Sc.pile w hh ps).sc = .tup [.str ("pile" : PySem.Str), .int (w : Nat), .int (hh : Nat), .tup ps.scs] by rw [Sc.sc]]
  replace h : ws.drop i = [40] :: wPi :: numS (w : Int) :: numS (hh : Int) :: (ps.wds ++ ([41] :: r)) := by rw [h]; simp
  have h1 := (drop_at h).2.2
  have h2 := (drop_at h1).2.2
  have h3 := (drop_at h2).2.2
  have h4 := (drop_at h3).2.2
  have lL := lit_L
  obtain ⟨os, e4⟩ := ih ws (i + 4) (g + 1) (deep + 1) _ hl (by omega) (by omega) h4
  have e0 : F_Reader_due_word [RdO ws (i : Int) (g : Int)] = _ := due_ok h hl
  have e1 : F_Reader_take [RdO ws ((i : Int) + 1) ((g : Int) + 1), .imm false KD] = .okm (.imm false (.str (S wPi))) [RdO ws ((i + 2 : Nat) : Int) ((g : Int) + 1), .imm false KD] := take_ok (i := i + 1) h1 hl kin4
  have e2 : F_Reader_take_whole [RdO ws ((i + 2 : Nat) : Int) ((g : Int) + 1), .imm false (.int 1), .imm false (.int 64)] = .okm (.imm false (.int (w : Nat))) [RdO ws ((i + 3 : Nat) : Int) ((g : Int) + 1), .imm false (.int 1), .imm false (.int 64)] := take_whole_ok (i := i + 2) h2 hl (by omega) (by omega) (by omega) (by omega) false false
  have e3 : F_Reader_take_whole [RdO ws ((i + 3 : Nat) : Int) ((g : Int) + 1), .imm false (.int 1), .imm false (.int 64)] = .okm (.imm false (.int (hh : Nat))) [RdO ws ((i + 4 : Nat) : Int) ((g : Int) + 1), .imm false (.int 1), .imm false (.int 64)] := take_whole_ok (i := i + 3) h3 hl (by omega) (by omega) (by omega) (by omega) false false
  rw [← lit_pi] at e1
  rw [← lit_L] at e0
  rw [show ((g + 1 : Nat) : Int) = (g : Int) + 1 from rfl, show ((deep + 1 : Nat) : Int) = (deep : Int) + 1 from rfl] at e4
  have d12 : ¬ (12 : Int) < (deep : Int) := by omega
  have g60 : ¬ (g : Int) = 60 := by omega
  have n1 := nep
  have n2 := nep2
  have n3 := nep3
  refine ⟨[.imm false (.int (deep : Nat))], ?_⟩
  have hL : ([[40], wPi] ++ ([(w : Int), (hh : Int)].map numS ++ (ps.wds ++ [[41]]))).length = ps.wds.length + 5 := by simp
  rw [hL, show i + (ps.wds.length + 5) = i + 4 + ps.wds.length + 1 by omega, show g + (ps.m + 1) = g + 1 + ps.m by omega]
  show mkFnX 7 2 (den_Reader_take_scene (Fr_Reader_take_parts n) (Fr_Reader_take_scene n)) _ = _
  rw [w_mkFnX]
  unfold KD at *
  clear hL h h1 h2 h3 h4 hl hd hg hw lL ih
  generalize ((i + 2 : Nat) : Int) = a2 at *
  generalize ((i + 3 : Nat) : Int) = a3 at *
  generalize ((i + 4 : Nat) : Int) = a4 at *
  generalize ((i + 4 + ps.wds.length + 1 : Nat) : Int) = a5 at *
  generalize ((g + 1 + ps.m : Nat) : Int) = g1 at *
  generalize ps.scs = c at *
  generalize (w : Int) = w at *
  generalize (hh : Int) = hh at *
  unfold den_Reader_take_scene
  walk_at "ev*"
  rfl
open SX (S S_len S_cat S_inj)
def plDE : DE := dFr (dMethO 0 "take_whole" 16 F_Reader_take_whole [] (dCons (d1 (fU fun i => -i) (dC (.int 1000000000))) (dCons (dC (.int 1000000000)) dNil)))
theorem place_step {ws : List (List Nat)} {a a' g x : Int} (e : F_Reader_take_whole [RdO ws a g, .imm false (.int (-1000000000)), .imm false (.int 1000000000)] = .okm (.imm false (.int x)) [RdO ws a' g, .imm false (.int (-1000000000)), .imm false (.int 1000000000)]) (t1 t2 t3 t4 : T) :
    plDE [RdO ws a g, t1, t2, t3, t4] = .ok (.imm false (.int x)) [RdO ws a' g, t1, t2, t3, t4] := by
  have R := rd_rules
  unfold plDE
  walk_at "ev*"
theorem place_cons {ws : List (List Nat)} {a a' g x k : Int} {ds r : List D} {ρ : List T} {t1 t2 t3 t4 : T} (e : F_Reader_take_whole [RdO ws a g, .imm false (.int (-1000000000)), .imm false (.int 1000000000)] = .okm (.imm false (.int x)) [RdO ws a' g, .imm false (.int (-1000000000)), .imm false (.int 1000000000)])
    (h : compL (dgName 4) dtYes plDE [4] false ds [RdO ws a' g, t1, t2, t3, .dead] = .ok r ρ) : compL (dgName 4) dtYes plDE [4] false (.int k :: ds) [RdO ws a g, t1, t2, t3, t4] = .ok (.int x :: r) ρ := by
  unfold compL
  simp only [show dgName 4 (.imm false (.int k)) [RdO ws a g, t1, t2, t3, t4] = some [RdO ws a g, t1, t2, t3, .imm false (.int k)] from rfl, show dtYes [RdO ws a g, t1, t2, t3, .imm false (.int k)] = .ok true [RdO ws a g, t1, t2, t3, .imm false (.int k)] from rfl, place_step e, show (T.imm false (.int x)).frz = some (false, D.int x) from rfl, show killL [4] [RdO ws a' g, t1, t2, t3, .imm false (.int k)] = [RdO ws a' g, t1, t2, t3, .dead] from rfl, h]
/-- a part, its first bracket taken -/
theorem tpart_ok {q : Prt} {n : Nat} (hb : bds q.rk q.x q.y q.dx q.dy) (ih : TSc n q.s) {ws : List (List Nat)} {i g deep : Nat} {r : List (List Nat)} (hl : ws.length ≤ 100000) (hd : deep + q.s.n ≤ 12) (hg : g + q.s.m ≤ 60) (h : ws.drop i = q.wd ++ r) {A : List D} (hA : A.length ≤ 100) (t3 : T) : ∃ t3',
    bd_Reader_take_parts_1 (Fr_Reader_take_scene n) [RdO ws ((i + 1 : Nat) : Int) (g : Int), .imm false (.int (deep : Nat)), .lstI A, t3, .dead] =
      .next [RdO ws ((i + q.wd.length : Nat) : Int) ((g + q.s.m : Nat) : Int), .imm false (.int (deep : Nat)), .lstI (A ++ [q.sc]), t3', .dead] := by
  have R := rd_rules
  have hL : q.wd.length = q.s.wd.length + 7 := by unfold Prt.wd; simp
  replace h : ws.drop i = [40] :: numS q.rk :: numS q.x :: numS q.y :: numS q.dx :: numS q.dy :: (q.s.wd ++ ([41] :: r)) := by rw [h]; unfold Prt.wd; simp
  have h1 := (drop_at h).2.2
  have h2 := (drop_at h1).2.2
  have h3 := (drop_at h2).2.2
  have h4 := (drop_at h3).2.2
  have h5 := (drop_at h4).2.2
  have h6 := (drop_at h5).2.2
  have h7 := drop_pre h6
  obtain ⟨os, e6⟩ := ih ws (i + 6) g deep _ hl hd hg h6
  unfold bds at hb
  have e1 : F_Reader_take_whole [RdO ws ((i + 1 : Nat) : Int) (g : Int), .imm false (.int (-1000000000)), .imm false (.int 1000000000)] = .okm (.imm false (.int q.rk)) [RdO ws ((i + 2 : Nat) : Int) (g : Int), .imm false (.int (-1000000000)), .imm false (.int 1000000000)] := take_whole_ok (i := i + 1) h1 hl (by omega) (by omega) (by omega) (by omega) false false
  have e2 : F_Reader_take_whole [RdO ws ((i + 2 : Nat) : Int) (g : Int), .imm false (.int (-1000000000)), .imm false (.int 1000000000)] = .okm (.imm false (.int q.x)) [RdO ws ((i + 3 : Nat) : Int) (g : Int), .imm false (.int (-1000000000)), .imm false (.int 1000000000)] := take_whole_ok (i := i + 2) h2 hl (by omega) (by omega) (by omega) (by omega) false false
  have e3 : F_Reader_take_whole [RdO ws ((i + 3 : Nat) : Int) (g : Int), .imm false (.int (-1000000000)), .imm false (.int 1000000000)] = .okm (.imm false (.int q.y)) [RdO ws ((i + 4 : Nat) : Int) (g : Int), .imm false (.int (-1000000000)), .imm false (.int 1000000000)] := take_whole_ok (i := i + 3) h3 hl (by omega) (by omega) (by omega) (by omega) false false
  have e4 : F_Reader_take_whole [RdO ws ((i + 4 : Nat) : Int) (g : Int), .imm false (.int (-1000000000)), .imm false (.int 1000000000)] = .okm (.imm false (.int q.dx)) [RdO ws ((i + 5 : Nat) : Int) (g : Int), .imm false (.int (-1000000000)), .imm false (.int 1000000000)] := take_whole_ok (i := i + 4) h4 hl (by omega) (by omega) (by omega) (by omega) false false
  have e5 : F_Reader_take_whole [RdO ws ((i + 5 : Nat) : Int) (g : Int), .imm false (.int (-1000000000)), .imm false (.int 1000000000)] = .okm (.imm false (.int q.dy)) [RdO ws ((i + 6 : Nat) : Int) (g : Int), .imm false (.int (-1000000000)), .imm false (.int 1000000000)] := take_whole_ok (i := i + 5) h5 hl (by omega) (by omega) (by omega) (by omega) false false
  have e7 : F_Reader_take [RdO ws ((i + 6 + q.s.wd.length : Nat) : Int) ((g + q.s.m : Nat) : Int), .imm false CD] = .okm (.imm false (.str (S [41]))) [RdO ws ((i + 6 + q.s.wd.length + 1 : Nat) : Int) ((g + q.s.m : Nat) : Int), .imm false CD] := take_ok (i := i + 6 + q.s.wd.length) h7 hl kin7
  have ec : compL (dgName 4) dtYes plDE [4] false (rangeD 0 5) [RdO ws ((i + 1 : Nat) : Int) (g : Int), .imm false (.int (deep : Nat)), .lstI A, t3, .dead] = .ok [.int q.rk, .int q.x, .int q.y, .int q.dx, .int q.dy] [RdO ws ((i + 6 : Nat) : Int) (g : Int), .imm false (.int (deep : Nat)), .lstI A, t3, .dead] := by
    rw [show rangeD 0 5 = [.int 0, .int 1, .int 2, .int 3, .int 4] from rfl]
    exact place_cons e1 (place_cons e2 (place_cons e3 (place_cons e4 (place_cons e5 rfl))))
  unfold plDE at ec
  refine ⟨.imm false (.lst [.int q.rk, .int q.x, .int q.y, .int q.dx, .int q.dy]), ?_⟩
  rw [hL, show i + (q.s.wd.length + 7) = i + 6 + q.s.wd.length + 1 by omega]
  clear hL h h1 h2 h3 h4 h5 h6 h7 hl hd hg hb ih e1 e2 e3 e4 e5
  unfold CD Prt.sc at *
  generalize ((i + 1 : Nat) : Int) = a1 at *
  generalize ((i + 6 : Nat) : Int) = a6 at *
  generalize ((i + 6 + q.s.wd.length + 1 : Nat) : Int) = a8 at *
  generalize ((i + 6 + q.s.wd.length : Nat) : Int) = a7 at *
  generalize ((g + q.s.m : Nat) : Int) = g1 at *
  generalize q.s.sc = c at *
  generalize q.rk = rk at *
  generalize q.x = x at *
  generalize q.y = y at *
  generalize q.dx = dx at *
  generalize q.dy = dy at *
  generalize Fr_Reader_take_scene n = F at *
  unfold bd_Reader_take_parts_1
  walk_at "ev*"
open SX (S S_len S_cat S_inj)
noncomputable def cdR : DT := dtVal (d2 oEq (dFr (dMethO 0 "take" 16 F_Reader_take [] (dCons (dTup (dCons (dC (.str ("(" : PySem.Str))) (dCons (dC (.str (")" : PySem.Str))) dNil))) dNil))) (dC (.str ("(" : PySem.Str))))
theorem cdR_t {ws : List (List Nat)} {i : Nat} {g : Int} {r : List (List Nat)} (h : ws.drop i = [40] :: r) (hl : ws.length ≤ 100000) (t1 t2 t3 t4 : T) : cdR [RdO ws i g, t1, t2, t3, t4] = .ok true [RdO ws ((i + 1 : Nat) : Int) g, t1, t2, t3, t4] := by
  have R := rd_rules
  have e : F_Reader_take [RdO ws (i : Int) g, .imm false PD] = .okm (.imm false (.str (S [40]))) [RdO ws ((i + 1 : Nat) : Int) g, .imm false PD] := take_ok h hl kin5
  rw [← lit_L] at e
  clear h hl
  unfold PD at e
  generalize ((i + 1 : Nat) : Int) = a1 at *
  unfold cdR
  walk_at "ev*"
theorem cdR_f {ws : List (List Nat)} {i : Nat} {g : Int} {r : List (List Nat)} (h : ws.drop i = [41] :: r) (hl : ws.length ≤ 100000) (t1 t2 t3 t4 : T) : cdR [RdO ws i g, t1, t2, t3, t4] = .ok false [RdO ws ((i + 1 : Nat) : Int) g, t1, t2, t3, t4] := by
  have R := rd_rules
  have e : F_Reader_take [RdO ws (i : Int) g, .imm false PD] = .okm (.imm false (.str (S [41]))) [RdO ws ((i + 1 : Nat) : Int) g, .imm false PD] := take_ok h hl kin6
  rw [← lit_R] at e
  have n := neLR
  clear h hl
  unfold PD at e
  generalize ((i + 1 : Nat) : Int) = a1 at *
  unfold cdR
  walk_at "ev*"
theorem tloop_ok {k : Nat} : ∀ (ps : Sps), (∀ q ∈ ps.toL, bds q.rk q.x q.y q.dx q.dy ∧ TSc k q.s) → ∀ (ws : List (List Nat)) (i g deep : Nat) (r : List (List Nat)) (A : List D) (t3 : T), ws.length ≤ 100000 → deep + ps.n ≤ 12 → g + ps.m ≤ 60 → ws.drop i = ps.wds ++ ([41] :: r) → A.length + ps.len ≤ 100 →
    ∃ t3', whileL cdR (bd_Reader_take_parts_1 (Fr_Reader_take_scene k)) (ps.len + 1) [RdO ws (i : Int) (g : Int), .imm false (.int (deep : Nat)), .lstI A, t3, .dead] = .next [RdO ws ((i + ps.wds.length + 1 : Nat) : Int) ((g + ps.m : Nat) : Int), .imm false (.int (deep : Nat)), .lstI (A ++ ps.scs), t3', .dead]
  | .nil, _, ws, i, g, deep, r, A, t3, hl, hd, hg, h, hA => by
    rw [show Sps.nil.wds = [] by rw [Sps.wds]] at h ⊢
    rw [show Sps.nil.m = 0 by rw [Sps.m], show Sps.nil.scs = [] by rw [Sps.scs], show Sps.nil.len = 0 by rw [Sps.len]]
    refine ⟨t3, ?_⟩
    unfold whileL
    simp only [cdR_f h hl, List.append_nil, List.length_nil, Nat.add_zero]
  | .cons rk x y dx dy s ps, hq, ws, i, g, deep, r, A, t3, hl, hd, hg, h, hA => by
    rw [show (Sps.cons rk x y dx dy s ps).wds = Prt.wd ⟨rk, x, y, dx, dy, s⟩ ++ ps.wds by rw [Sps.wds]; first | done | rfl] at h ⊢
    rw [show (Sps.cons rk x y dx dy s ps).scs = Prt.sc ⟨rk, x, y, dx, dy, s⟩ :: ps.scs by rw [Sps.scs]; first | done | rfl]
    unfold Sps.n at hd
    unfold Sps.m at hg ⊢
    unfold Sps.len at hA ⊢
    have hb := hq ⟨rk, x, y, dx, dy, s⟩ (by unfold Sps.toL; simp)
    rw [List.append_assoc] at h
    have h0 : ws.drop i = [40] :: ([rk, x, y, dx, dy].map numS ++ (s.wd ++ [[41]]) ++ (ps.wds ++ ([41] :: r))) := by rw [h]; unfold Prt.wd; simp
    obtain ⟨u3, e1⟩ := tpart_ok (q := ⟨rk, x, y, dx, dy, s⟩) hb.1 hb.2 (ws := ws) (i := i) (g := g) (deep := deep) hl (by show deep + s.n ≤ 12; omega) (by show g + s.m ≤ 60; omega) h (A := A) (by omega) t3
    obtain ⟨u4, e2⟩ := tloop_ok ps (fun q hm => hq q (by unfold Sps.toL; simp [hm])) ws (i + (Prt.wd ⟨rk, x, y, dx, dy, s⟩).length) (g + s.m) deep r (A ++ [Prt.sc ⟨rk, x, y, dx, dy, s⟩]) u3 hl (by omega) (by omega) (drop_pre h) (by rw [List.length_append, List.length_singleton]; omega)
    refine ⟨u4, ?_⟩
    rw [List.append_assoc, List.singleton_append] at e2
    rw [whileL]
    simp only [cdR_t h0 hl, e1, e2]
    rw [List.length_append, Nat.add_assoc g, ← Nat.add_assoc i]
theorem tparts_ok {k : Nat} {ps : Sps} (hq : ∀ q ∈ ps.toL, bds q.rk q.x q.y q.dx q.dy ∧ TSc k q.s) (hlen : ps.len ≤ 60) : TPs (k + 1) ps := by
  intro ws i g deep r hl hd hg h
  obtain ⟨t3, e⟩ := tloop_ok ps hq ws i g deep r [] .dead hl hd hg h (by simp; omega)
  have q := dWhile_eq e (by simp)
  rw [List.nil_append] at q
  unfold cdR at q
  have lz : ps.scs.length ≤ 60 := by rw [scs_eq, List.length_map, len_eq]; exact hlen
  refine ⟨[.imm false (.int (deep : Nat))], ?_⟩
  show mkFnX 5 2 (den_Reader_take_parts (Fr_Reader_take_scene k)) _ = _
  rw [w_mkFnX]
  clear h hl hd hg e hq hlen
  generalize ((i + ps.wds.length + 1 : Nat) : Int) = a1 at *
  generalize ((g + ps.m : Nat) : Int) = g1 at *
  generalize ps.scs = c at *
  generalize Fr_Reader_take_scene k = F at *
  unfold den_Reader_take_parts
  walk_at "ev*"
  rfl
mutual
theorem tscene_ok : ∀ (s : Sc) (n : Nat), s.n < n → s.ok0 → TSc n s
  | .still X, n, hn, ok => by
    obtain ⟨m, rfl⟩ : ∃ m, n = m + 1 := ⟨n - 1, by omega⟩
    unfold Sc.ok0 at ok
    exact tscene_still ok
  | .turn p s, n, hn, ok => by
    unfold Sc.n at hn
    unfold Sc.ok0 at ok
    obtain ⟨m, rfl⟩ : ∃ m, n = m + 1 := ⟨n - 1, by omega⟩
    exact tscene_turn ok.1 (tscene_ok s m (by omega) ok.2)
  | .pane x y w h s, n, hn, ok => by
    unfold Sc.n at hn
    unfold Sc.ok0 at ok
    obtain ⟨m, rfl⟩ : ∃ m, n = m + 1 := ⟨n - 1, by omega⟩
    exact tscene_pane ok.1 ok.2.1 (tscene_ok s m (by omega) ok.2.2)
  | .pile w h ps, n, hn, ok => by
    unfold Sc.n at hn
    unfold Sc.ok0 at ok
    obtain ⟨m, rfl⟩ : ∃ m, n = m + 1 + 1 := ⟨n - 2, by omega⟩
    exact tscene_pile ok.1 (tparts_ok (tscenes_ok ps m (by omega) ok.2.2) ok.2.1)
theorem tscenes_ok : ∀ (ps : Sps) (n : Nat), ps.n < n → ps.ok0 → ∀ q ∈ ps.toL, bds q.rk q.x q.y q.dx q.dy ∧ TSc n q.s
  | .nil, n, _, _, q, hq => by unfold Sps.toL at hq; simp at hq
  | .cons rk x y dx dy s ps, n, hn, ok, q, hq => by
    unfold Sps.n at hn
    unfold Sps.ok0 at ok
    unfold Sps.toL at hq
    have a := tscene_ok s n (by omega) ok.2.1
    have b := tscenes_ok ps n (by omega) ok.2.2
    rcases List.mem_cons.mp hq with rfl | hq
    · exact ⟨ok.1, a⟩
    · exact b q hq
end
/-! what repr can show -/
mutual
theorem sc_s9 : ∀ s : Sc, s.ok0 → s.sc.sm9 = true ∧ s.sc.dp ≤ 2 * s.n + 3 ∧ s.sc.bk + 20 ≤ 300 * s.m
  | .still X, ok => by
    unfold Sc.ok0 at ok
    obtain ⟨q1, q2, q3⟩ := pic_s9 ok
    have e1 : (D.str ("still" : PySem.Str)).sm9 = true := by decide +kernel
    have e2 : (D.str ("still" : PySem.Str)).bk = 5 := by decide +kernel
    unfold Sc.sc Sc.n Sc.m
    refine ⟨?_, ?_, ?_⟩
    · show ((D.str ("still" : PySem.Str)).sm9 && ((picD X.w X.rs).sm9 && true)) = true
      rw [e1, q1]; rfl
    · show max 0 (max (picD X.w X.rs).dp 0) + 1 ≤ 2 * 0 + 3
      omega
    · show (D.str ("still" : PySem.Str)).bk + 1 + ((picD X.w X.rs).bk + 1 + 0) + 20 ≤ 300 * 1
      omega
  | .turn p s, ok => by
    unfold Sc.ok0 at ok
    obtain ⟨q1, q2, q3⟩ := sc_s9 s ok.2
    have e1 : (D.str ("turn" : PySem.Str)).sm9 = true := by decide +kernel
    have e2 : (D.str ("turn" : PySem.Str)).bk = 4 := by decide +kernel
    have hp : p < 8 := ok.1
    unfold Sc.sc Sc.n Sc.m
    refine ⟨?_, ?_, ?_⟩
    · show ((D.str ("turn" : PySem.Str)).sm9 && ((D.int (p : Nat)).sm9 && (s.sc.sm9 && true))) = true
      rw [e1, q1, i9 (Nat.lt_trans hp (by decide))]; rfl
    · show max 0 (max 0 (max s.sc.dp 0)) + 1 ≤ 2 * (s.n + 1) + 3
      omega
    · show (D.str ("turn" : PySem.Str)).bk + 1 + (0 + 1 + (s.sc.bk + 1 + 0)) + 20 ≤ 300 * (s.m + 1)
      omega
  | .pane x y w h s, ok => by
    unfold Sc.ok0 at ok
    obtain ⟨⟨x1, x2, y1, y2⟩, ⟨w1, w2, h1, h2⟩, ok2⟩ := ok
    obtain ⟨q1, q2, q3⟩ := sc_s9 s ok2
    have e1 : (D.str ("pane" : PySem.Str)).sm9 = true := by decide +kernel
    have e2 : (D.str ("pane" : PySem.Str)).bk = 4 := by decide +kernel
    unfold Sc.sc Sc.n Sc.m
    refine ⟨?_, ?_, ?_⟩
    · show ((D.str ("pane" : PySem.Str)).sm9 && ((D.int x).sm9 && ((D.int y).sm9 && ((D.int (w : Nat)).sm9 && ((D.int (h : Nat)).sm9 && (s.sc.sm9 && true)))))) = true
      rw [e1, q1, j9 (i := x) (by omega) (by omega), j9 (i := y) (by omega) (by omega), i9 (Nat.lt_of_le_of_lt w2 (by decide)), i9 (Nat.lt_of_le_of_lt h2 (by decide))]; rfl
    · show max 0 (max 0 (max 0 (max 0 (max 0 (max s.sc.dp 0))))) + 1 ≤ 2 * (s.n + 1) + 3
      omega
    · show (D.str ("pane" : PySem.Str)).bk + 1 + (0 + 1 + (0 + 1 + (0 + 1 + (0 + 1 + (s.sc.bk + 1 + 0))))) + 20 ≤ 300 * (s.m + 1)
      omega
  | .pile w h ps, ok => by
    unfold Sc.ok0 at ok
    obtain ⟨⟨w1, w2, h1, h2⟩, hl, ok2⟩ := ok
    obtain ⟨q1, q2, q3⟩ := scs_s9 ps ok2
    have e1 : (D.str ("pile" : PySem.Str)).sm9 = true := by decide +kernel
    have e2 : (D.str ("pile" : PySem.Str)).bk = 4 := by decide +kernel
    unfold Sc.sc Sc.n Sc.m
    refine ⟨?_, ?_, ?_⟩
    · show ((D.str ("pile" : PySem.Str)).sm9 && ((D.int (w : Nat)).sm9 && ((D.int (h : Nat)).sm9 && (D.sm9s ps.scs && true)))) = true
      rw [e1, q1, i9 (Nat.lt_of_le_of_lt w2 (by decide)), i9 (Nat.lt_of_le_of_lt h2 (by decide))]; rfl
    · show max 0 (max 0 (max 0 (max (D.dps ps.scs + 1) 0))) + 1 ≤ 2 * (ps.n + 2) + 3
      omega
    · show (D.str ("pile" : PySem.Str)).bk + 1 + (0 + 1 + (0 + 1 + (D.bks ps.scs + 1 + 0))) + 20 ≤ 300 * (ps.m + 1)
      omega
theorem scs_s9 : ∀ ps : Sps, ps.ok0 → D.sm9s ps.scs = true ∧ D.dps ps.scs ≤ 2 * ps.n + 4 ∧ D.bks ps.scs ≤ 300 * ps.m
  | .nil, _ => by
    unfold Sps.scs Sps.n Sps.m
    exact ⟨rfl, Nat.zero_le _, Nat.zero_le _⟩
  | .cons rk x y dx dy s ps, ok => by
    unfold Sps.ok0 at ok
    obtain ⟨b, ok1, ok2⟩ := ok
    obtain ⟨q1, q2, q3⟩ := sc_s9 s ok1
    obtain ⟨p1, p2, p3⟩ := scs_s9 ps ok2
    unfold Sps.scs Sps.n Sps.m
    refine ⟨?_, ?_, ?_⟩
    · show (((D.int rk).sm9 && ((D.int x).sm9 && ((D.int y).sm9 && ((D.int dx).sm9 && ((D.int dy).sm9 && (s.sc.sm9 && true)))))) && D.sm9s ps.scs) = true
      unfold bds at b
      rw [q1, p1, j9 (by omega) (by omega), j9 (by omega) (by omega), j9 (by omega) (by omega), j9 (by omega) (by omega), j9 (by omega) (by omega)]; rfl
    · show max (max 0 (max 0 (max 0 (max 0 (max 0 (max s.sc.dp 0))))) + 1) (D.dps ps.scs) ≤ 2 * max s.n ps.n + 4
      omega
    · show (0 + 1 + (0 + 1 + (0 + 1 + (0 + 1 + (0 + 1 + (s.sc.bk + 1 + 0)))))) + 1 + D.bks ps.scs ≤ 300 * (s.m + ps.m)
      omega
end
open SX (S S_len S_cat S_inj)
def setfk (i : Nat) (f : Str) (ok : Nat → Bool) : ER T → SR
  | .ok t ρ1 => (match ρ1[i]?, t.frz with
    | some (.obj c ns ts), some (false, d) => if ok c = true ∧ ns.length < 1000 ∧ f ∉ ns then .next (ρ1.set i (.obj c (ns ++ [f]) (ts ++ [.imm false d]))) else .bad
    | _, _ => .bad)
  | .exc e ρ1 => .exc e ρ1
  | .bad => .bad
theorem v_SetFld {i : Nat} {f : Str} {ok : Nat → Bool} {de : DE} {ρ : List T} : dSetFld i f ok de ρ = setfk i f ok (de ρ) := by
  unfold dSetFld setfk
  cases de ρ <;> rfl
theorem v_setfk {f : Str} {ok : Nat → Bool} {d : D} {c : Nat} {ns : List Str} {ts ρ : List T} (h : ok c = true ∧ ns.length < 1000 ∧ f ∉ ns) : setfk 0 f ok (.ok (.imm false d) (.obj c ns ts :: ρ)) = .next (.obj c (ns ++ [f]) (ts ++ [.imm false d]) :: ρ) := if_pos h
theorem v_setfk_l {f : Str} {ok : Nat → Bool} {ds : List D} {c : Nat} {ns : List Str} {ts ρ : List T} (h : ok c = true ∧ ns.length < 1000 ∧ f ∉ ns) : setfk 0 f ok (.ok (.lstI ds) (.obj c ns ts :: ρ)) = .next (.obj c (ns ++ [f]) (ts ++ [.imm false (.lst ds)]) :: ρ) := if_pos h
theorem init_ok {a : List Nat} (hl : a.length ≤ 16000000) (c : Bool) : F_Reader_init [.obj 16 [] [], .imm c (.str (S a))] = .okm (.imm false .non) [RdO (sp 32 a) 0 0, .imm c (.str (S a))] := by
  have lb := lit_blank
  have hs := fun b ρ => v_fSplit_S (c := 32) (a := a) (b := b) (ρ := ρ) (by omega) (by omega)
  have s0 := fun ρ => v_setfk_l (f := ("signs" : PySem.Str)) (ok := obOk_signs) (ds := (sp 32 a).map txD) (c := 16) (ns := []) (ts := []) (ρ := ρ) ⟨rfl, by simp, by simp⟩
  have s1 := fun d ρ => v_setfk (f := ("here" : PySem.Str)) (ok := obOk_here) (d := d) (c := 16) (ns := [("signs" : PySem.Str)]) (ts := [.imm false (.lst ((sp 32 a).map txD))]) (ρ := ρ) ⟨rfl, by simp, by decide⟩
  have s2 := fun d ρ => v_setfk (f := ("begun" : PySem.Str)) (ok := obOk_begun) (d := d) (c := 16) (ns := [("signs" : PySem.Str), ("here" : PySem.Str)]) (ts := [.imm false (.lst ((sp 32 a).map txD)), .imm false (.int 0)]) (ρ := ρ) ⟨rfl, by simp, by decide⟩
  have vs := fun i f ok de ρ => @v_SetFld i f ok de ρ
  unfold RdO nsR
  clear hl
  generalize (sp 32 a).map txD = W at *
  unfold F_Reader_init den_Reader_init mkFnM
  walk_at "ev*" <;> rfl
theorem read_scene_ok {s : Sc} (ok : s.ok0) (hn : s.n ≤ 11) (hm : s.m ≤ 60) (b : Bool) : F_read_scene [.imm b (.str (S (Jn s.wd)))] = .ok (.imm false s.sc) := by
  have R := rd_rules
  have lj := wd_Jlen ok hm
  have wl := wd_len s
  have ei := fun c => init_ok (a := Jn s.wd) (by omega) c
  rw [sp_wd ok] at ei
  obtain ⟨os, e⟩ := tscene_ok s 28 (by omega) ok s.wd 0 0 1 [] (by omega) (by omega) (by omega) (by simp)
  rw [Nat.zero_add, Nat.zero_add] at e
  replace e : F_Reader_take_scene [RdO s.wd 0 0, .imm false (.int 1)] = .okm (.imm false s.sc) (RdO s.wd ((s.wd.length : Nat) : Int) ((s.m : Nat) : Int) :: os) := e
  have hlt : ¬ ((s.wd.length : Nat) : Int) < ((s.wd.map txD).length : Int) := by rw [List.length_map]; omega
  have hlt2 : ¬ ((s.wd.length : Nat) : Int) < ((s.wd.length : Nat) : Int) := by omega
  have l2 : (s.wd.map txD).length ≤ 2000 := by rw [List.length_map]; omega
  have l3 : s.wd.length ≤ 2000 := by omega
  clear lj wl ok hn hm
  generalize ((s.m : Nat) : Int) = g1 at *
  generalize s.sc = c at *
  generalize Jn s.wd = a at *
  generalize s.wd = ws at *
  unfold F_read_scene den_read_scene
  walk_at "ev*"
theorem turn_ok {s : Sc} (ok : s.ok0) (hn : s.n ≤ 11) (hm : s.m ≤ 60) (t0 t1 t2 t4 t5 : T) : ∃ u4 u5 : T, bd_law_1 [t0, t1, t2, .imm false s.sc, t4, t5] = .next [t0, t1, t2, .imm false s.sc, u4, u5] := by
  have lb := lit_blank
  have wl := wd_len s
  have ew : F_L_words [.imm false s.sc] = .ok (.lstI (s.wd.map txD)) := lwords_ok s 16 (by omega) ok hm
  have et : F_scene_text [.imm false s.sc] = .ok (.imm false (.str (S (Jn s.wd)))) := stext_ok s 16 (by omega) ok hm
  have er := fun b => read_scene_ok ok hn hm b
  have hj : ∀ b ρ, fJoin (S [32]) (.imm b (.lst (s.wd.map txD))) ρ = .ok (.imm false (.str (S (Jn s.wd)))) ρ := fun b ρ => by
    rw [fJoin_S]
    · rfl
    · have := sum_len (ws := s.wd) (w := 5000) fun v hv => (wd_ok s ok v hv).1
      have : s.wd.length * 5000 ≤ 900 * 5000 := Nat.mul_le_mul_right _ (by omega)
      simp only [List.length_cons, List.length_nil]
      omega
  obtain ⟨q1, q2, q3⟩ := sc_s9 s ok
  obtain ⟨sh, hs⟩ := shw9_ok q1 (by omega) (by omega)
  refine ⟨.imm false (.str (S (Jn s.wd))), .imm false (.str (S (Jn s.wd))), ?_⟩
  have n1 : gNe (.str (S (Jn s.wd))) (.str (S (Jn s.wd))) = some (.bl false) := by rw [v_ne_S, decide_eq_true rfl]; rfl
  clear q1 q2 q3 wl ok hn hm
  generalize s.sc = c at *
  generalize s.wd.map txD = W at *
  generalize Jn s.wd = a at *
  unfold bd_law_1
  walk_at "ev*"
theorem main : LawTrue F_law := by
  intro ns hn
  refine ⟨false, ?_⟩
  obtain ⟨z0, ez0⟩ := @cell_at_ok ns 0 (by omega)
  obtain ⟨zs, hz, ec⟩ := @cells_ok ns hn 1 40 (by omega) (by omega) (by omega) (by omega)
  have hz' : zs.length ≤ 40 := hz
  obtain ⟨s0, k', g, es⟩ := lscene_ok (zs := zs) (by omega) 4 16 (by omega) (by omega) 0
  replace es : F_L_scene [.imm false (.lst (zs.map D.int)), .imm false (.int 0), .imm false (.int 4)] = .ok (.imm false (.tup [s0.sc, .int (k' : Nat)])) := es
  have gn := g.n
  have ga := g.a
  have gb := g.b
  obtain ⟨s, o, n, m, eg⟩ := lgreat_ok (s := s0) g.o (by omega) (by omega) z0
  obtain ⟨s', b, eb⟩ := lbent_ok s 16 (by omega) (by omega) o (z0 % 1000003)
  replace eb : F_L_bent [.imm false s.sc, .imm false (.int (z0 % 1000003))] = .ok (.imm false s'.sc) := eb
  have bn := b.n
  have bm := b.m
  have bo := b.o
  have all : ∀ a ∈ [s, s', s], a.ok0 ∧ a.n ≤ 11 ∧ a.m ≤ 60 := fun a ha => by
    simp only [List.mem_cons, List.not_mem_nil, or_false] at ha
    rcases ha with rfl | rfl | rfl
    · exact ⟨o, n, m⟩
    · exact ⟨bo, by omega, by omega⟩
    · exact ⟨o, n, m⟩
  obtain ⟨ρ', e, t3, t4, t5, rfl⟩ := forL_take (f := Sc.sc) (xs := [s, s', s]) (dg := dgName 3) (body := bd_law_1) (b := false) (ρ := [.imm false (.scr ns), .imm false (.int z0), .imm false s.sc, .dead, .dead, .dead])
    (P := fun l ρ => ∃ t3 t4 t5, ρ = [.imm false (.scr ns), .imm false (.int z0), .imm false s.sc, t3, t4, t5]) ⟨_, _, _, rfl⟩ fun l q a ρ hl ⟨t3, t4, t5, eρ⟩ => by
      subst eρ
      obtain ⟨a1, a2, a3⟩ := all a (by rw [hl]; simp)
      obtain ⟨u4, u5, e⟩ := turn_ok a1 a2 a3 (.imm false (.scr ns)) (.imm false (.int z0)) (.imm false s.sc) t4 t5
      exact ⟨[.imm false (.scr ns), .imm false (.int z0), .imm false s.sc, .imm false a.sc, t4, t5], [.imm false (.scr ns), .imm false (.int z0), .imm false s.sc, .imm false a.sc, u4, u5], rfl, .inl e, _, _, _, rfl⟩
  rw [show [s, s', s].map Sc.sc = [s.sc, s'.sc, s.sc] from rfl] at e
  clear hn hz hz' g gn ga gb o n m b bn bm bo all
  generalize zs.map D.int = Z at *
  generalize s0.sc = S0 at *
  generalize s.sc = S1 at *
  generalize s'.sc = S2 at *
  unfold F_law den_law
  walk_at "ev*"

end Gb
open PySem PySem.W PyProof.Rows in
theorem PySem.Challenge.cw_glowboard_k75_scenes_written_holds : PySem.Challenge.rw_glowboard_k75_scenes_written.Holds := by
  w_on; o_law; k_head; (case hw => w_witness2)
  k_fill
  refine' Gb.law_walk (l := PySem.Challenge.rw_glowboard_k75_scenes_written) (k := 36) (x := "_law_script") (ca := ⟨fun i => ([_, 0, 0, 0, 0, 0, 0, _, 0, 0, 0, 0, 0, _, 0, 0, _] : List Addr).getD i 0, []⟩) Gb.main rfl rfl rfl ⟨rfl, by decide, by decide⟩ (fun w h Y => PySem.W.kIn_of Y) ?F
  case F =>
    intro w mg fa h KX G hmg
    refine' Gb.all_mk KX G hmg ?z_all_ ?z_bool_ ?z_enumerate ?z_int_ ?z_isinstance ?z_len ?z_list_ ?z_range ?z_repr_ ?z_str_ ?z_tuple_ ?z_zip ?g_COLOURS ?g_DEEP ?g_FAR ?g_MANY ?g_MOST ?g_SIGNS ?gU16 ?hcU16 ?pgU16 ?hdU16 ?poU16 ?saU16 ?mkU16 ?kcU16 ?noU16_signs ?noU16_here ?noU16_begun ?a0 ?l0 ?c0 ?k0 ?a1 ?l1 ?c1 ?k1 ?a2 ?l2 ?c2 ?k2 ?a3 ?l3 ?c3 ?k3 ?a4 ?l4 ?c4 ?k4 ?a5 ?l5 ?c5 ?k5 ?a6 ?l6 ?c6 ?k6 ?a7 ?l7 ?c7 ?k7 ?a8 ?l8 ?c8 ?k8 ?a9 ?l9 ?c9 ?k9 ?a10 ?l10 ?c10 ?k10 ?a11 ?l11 ?c11 ?k11 ?a12 ?l12 ?c12 ?k12 ?i12 ?a13 ?l13 ?c13 ?k13 ?i13 ?a14 ?l14 ?c14 ?k14 ?i14 ?a15 ?l15 ?c15 ?k15 ?i15 ?a16 ?l16 ?c16 ?k16 ?i16 ?a17 ?l17 ?c17 ?k17 ?i17 ?a18 ?l18 ?c18 ?k18 ?i18 ?a19 ?l19 ?c19 ?k19 ?a20 ?l20 ?c20 ?k20 ?a21 ?l21 ?c21 ?k21 ?a22 ?l22 ?c22 ?k22 ?a23 ?l23 ?c23 ?k23 ?a24 ?l24 ?c24 ?k24 ?a25 ?l25 ?c25 ?k25 ?a26 ?l26 ?c26 ?k26 ?a27 ?l27 ?c27 ?k27 ?a28 ?l28 ?c28 ?k28 ?a29 ?l29 ?c29 ?k29 ?a30 ?l30 ?c30 ?k30 ?a31 ?l31 ?c31 ?k31 ?a32 ?l32 ?c32 ?k32 ?a33 ?l33 ?c33 ?k33 ?a34 ?l34 ?c34 ?k34 ?a35 ?l35 ?c35 ?k35 ?gX0 ?hca0 ?tyX0 ?hdX0 ?sbX0 ?gX7 ?hca7 ?tyX7 ?hdX7 ?sbX7 ?gX13 ?hca13 ?tyX13 ?hdX13 ?sbX13 ?hnX ?htX ?gaG ?rdG ?fcG ?xlX7 ?saX7 ?aiX7 ?tiX7 ?liX7 ?ciX7 ?kiX7 ?noX7_row ?kpX7 ?haX7 ?hbX7 ?hcX7 ?hmX7 ?sX7_0 ?sX7_7 ?sX7_13 ?xlX13 ?saX13 ?aiX13 ?tiX13 ?liX13 ?ciX13 ?kiX13 ?noX13_at ?kpX13 ?haX13 ?hbX13 ?hcX13 ?hmX13 ?sX13_0 ?sX13_7 ?sX13_13
    (case z_all_ => k_is)
    (case z_bool_ => k_is)
    (case z_enumerate => k_is)
    (case z_int_ => k_is)
    (case z_isinstance => k_is)
    (case z_len => k_is)
    (case z_list_ => k_is)
    (case z_range => k_is)
    (case z_repr_ => k_is)
    (case z_str_ => k_is)
    (case z_tuple_ => k_is)
    (case z_zip => k_is)
    (case g_COLOURS => k_is)
    (case g_DEEP => k_is)
    (case g_FAR => k_is)
    (case g_MANY => k_is)
    (case g_MOST => k_is)
    (case g_SIGNS => k_is)
    (case gU16 => k_is)
    (case hcU16 => rfl)
    (case pgU16 => k_is)
    (case hdU16 => k_is)
    (case poU16 => k_is)
    (case saU16 => k_is)
    (case mkU16 => k_is)
    (case kcU16 => k_is)
    (case noU16_signs => k_is)
    (case noU16_here => k_is)
    (case noU16_begun => k_is)
    (case a0 => k_is)
    (case l0 => k_is)
    (case c0 => k_is)
    (case k0 => k_is)
    (case a1 => k_is)
    (case l1 => k_is)
    (case c1 => k_is)
    (case k1 => k_is)
    (case a2 => k_is)
    (case l2 => k_is)
    (case c2 => k_is)
    (case k2 => k_is)
    (case a3 => k_is)
    (case l3 => k_is)
    (case c3 => k_is)
    (case k3 => k_is)
    (case a4 => k_is)
    (case l4 => k_is)
    (case c4 => k_is)
    (case k4 => k_is)
    (case a5 => k_is)
    (case l5 => k_is)
    (case c5 => k_is)
    (case k5 => k_is)
    (case a6 => k_is)
    (case l6 => k_is)
    (case c6 => k_is)
    (case k6 => k_is)
    (case a7 => k_is)
    (case l7 => k_is)
    (case c7 => k_is)
    (case k7 => k_is)
    (case a8 => k_is)
    (case l8 => k_is)
    (case c8 => k_is)
    (case k8 => k_is)
    (case a9 => k_is)
    (case l9 => k_is)
    (case c9 => k_is)
    (case k9 => k_is)
    (case a10 => k_is)
    (case l10 => k_is)
    (case c10 => k_is)
    (case k10 => k_is)
    (case a11 => k_is)
    (case l11 => k_is)
    (case c11 => k_is)
    (case k11 => k_is)
    (case a12 => k_is)
    (case l12 => k_is)
    (case c12 => k_is)
    (case k12 => k_is)
    (case i12 => k_is)
    (case a13 => k_is)
    (case l13 => k_is)
    (case c13 => k_is)
    (case k13 => k_is)
    (case i13 => k_is)
    (case a14 => k_is)
    (case l14 => k_is)
    (case c14 => k_is)
    (case k14 => k_is)
    (case i14 => k_is)
    (case a15 => k_is)
    (case l15 => k_is)
    (case c15 => k_is)
    (case k15 => k_is)
    (case i15 => k_is)
    (case a16 => k_is)
    (case l16 => k_is)
    (case c16 => k_is)
    (case k16 => k_is)
    (case i16 => k_is)
    (case a17 => k_is)
    (case l17 => k_is)
    (case c17 => k_is)
    (case k17 => k_is)
    (case i17 => k_is)
    (case a18 => k_is)
    (case l18 => k_is)
    (case c18 => k_is)
    (case k18 => k_is)
    (case i18 => k_is)
    (case a19 => k_is)
    (case l19 => k_is)
    (case c19 => k_is)
    (case k19 => k_is)
    (case a20 => k_is)
    (case l20 => k_is)
    (case c20 => k_is)
    (case k20 => k_is)
    (case a21 => k_is)
    (case l21 => k_is)
    (case c21 => k_is)
    (case k21 => k_is)
    (case a22 => k_is)
    (case l22 => k_is)
    (case c22 => k_is)
    (case k22 => k_is)
    (case a23 => k_is)
    (case l23 => k_is)
    (case c23 => k_is)
    (case k23 => k_is)
    (case a24 => k_is)
    (case l24 => k_is)
    (case c24 => k_is)
    (case k24 => k_is)
    (case a25 => k_is)
    (case l25 => k_is)
    (case c25 => k_is)
    (case k25 => k_is)
    (case a26 => k_is)
    (case l26 => k_is)
    (case c26 => k_is)
    (case k26 => k_is)
    (case a27 => k_is)
    (case l27 => k_is)
    (case c27 => k_is)
    (case k27 => k_is)
    (case a28 => k_is)
    (case l28 => k_is)
    (case c28 => k_is)
    (case k28 => k_is)
    (case a29 => k_is)
    (case l29 => k_is)
    (case c29 => k_is)
    (case k29 => k_is)
    (case a30 => k_is)
    (case l30 => k_is)
    (case c30 => k_is)
    (case k30 => k_is)
    (case a31 => k_is)
    (case l31 => k_is)
    (case c31 => k_is)
    (case k31 => k_is)
    (case a32 => k_is)
    (case l32 => k_is)
    (case c32 => k_is)
    (case k32 => k_is)
    (case a33 => k_is)
    (case l33 => k_is)
    (case c33 => k_is)
    (case k33 => k_is)
    (case a34 => k_is)
    (case l34 => k_is)
    (case c34 => k_is)
    (case k34 => k_is)
    (case a35 => k_is)
    (case l35 => k_is)
    (case c35 => k_is)
    (case k35 => k_is)
    (case gX0 => k_is)
    (case hca0 => rfl)
    (case tyX0 => k_is)
    (case hdX0 => k_is)
    (case sbX0 => k_is)
    (case gX7 => k_is)
    (case hca7 => rfl)
    (case tyX7 => k_is)
    (case hdX7 => k_is)
    (case sbX7 => k_is)
    (case gX13 => k_is)
    (case hca13 => rfl)
    (case tyX13 => k_is)
    (case hdX13 => k_is)
    (case sbX13 => k_is)
    (case hnX => k_is)
    (case htX => k_is)
    (case gaG => k_is)
    (case rdG => k_is)
    (case fcG => k_is)
    (case xlX7 => k_is)
    (case saX7 => k_is)
    (case aiX7 => k_is)
    (case tiX7 => k_is)
    (case liX7 => k_is)
    (case ciX7 => k_is)
    (case kiX7 => k_is)
    (case noX7_row => k_is)
    (case kpX7 => k_is)
    (case haX7 => k_is)
    (case hbX7 => k_is)
    (case hcX7 => k_is)
    (case hmX7 => k_is)
    (case sX7_0 => k_is)
    (case sX7_7 => k_is)
    (case sX7_13 => k_is)
    (case xlX13 => k_is)
    (case saX13 => k_is)
    (case aiX13 => k_is)
    (case tiX13 => k_is)
    (case liX13 => k_is)
    (case ciX13 => k_is)
    (case kiX13 => k_is)
    (case noX13_at => k_is)
    (case kpX13 => k_is)
    (case haX13 => k_is)
    (case hbX13 => k_is)
    (case hcX13 => k_is)
    (case hmX13 => k_is)
    (case sX13_0 => k_is)
    (case sX13_7 => k_is)
    (case sX13_13 => k_is)
#print axioms PySem.Challenge.cw_glowboard_k75_scenes_written_holds
