import PyProof.Rows.All
import Wide.All
import OpenK.AllK
import Wide.FinOn
import HandS.ForMost
import HandS.Evl
import HandS.Defaults
import KE.KDictKeyed
import HandS.TupAny
import HandS.IsInst
import HandS.Style
import HandS.Comp
import HandS.Dict
import HandS.Iter
import HandS.Zip
import HandS.Deep
import HandS.Conv
import HandS.TupLen
import KE.SortData
import HandS.RevTup
import KE.KDictExact
import KE.GoesEnum
import HandS.HeadEnd
import HandS.HeadHook1
import HandS.HeadHook2
import HandS.Head2
import PySem.Challenge.RW_runcourt_k09_regions
set_option Elab.async false
set_option linter.all false
set_option maxRecDepth 100000
namespace DL
open PySem PySem.Spec PyProof.Rows L2
open Evl (Ex Ex.refl Ex.trans Ex.new Ex.mut ex_l ex_t ex_rd fresh_back)

/-! ### trees -/
/-- what kind of mutable object a node is -/
inductive Kd where
  | lst
  | dic (deep : Bool) (ks : List NestedKey)
  | ins (C : Addr) (fs : List Str)
/-- a tree of mutable objects over data that never changes -/
inductive T where
  | dat (x : PyData)
  | scr (ns : List Int)
  | nd (k : Kd) (ts : List T)
/-- the same, with the places where the objects stand -/
inductive A where
  | dat (x : PyData)
  | scr (ns : List Int)
  | nd (a dx : Addr) (k : Kd) (ts : List A)
mutual
def A.er : A → T
  | .dat x => .dat x
  | .scr ns => .scr ns
  | .nd _ _ k ts => .nd k (A.ers ts)
def A.ers : List A → List T
  | [] => []
  | t :: ts => t.er :: A.ers ts
end
theorem A.ers_eq : ∀ ts : List A, A.ers ts = ts.map A.er
  | [] => rfl
  | t :: ts => by rw [A.ers, A.ers_eq ts, List.map_cons]
mutual
def A.ads : A → List Addr
  | .dat _ => []
  | .scr _ => []
  | .nd a _ _ ts => a :: A.adss ts
def A.adss : List A → List Addr
  | [] => []
  | t :: ts => t.ads ++ A.adss ts
end
theorem A.adss_append : ∀ ts us : List A, A.adss (ts ++ us) = A.adss ts ++ A.adss us
  | [], us => rfl
  | t :: ts, us => by rw [List.cons_append, A.adss, A.adss, A.adss_append ts us, List.append_assoc]

/-- program, world and the written part -/
structure Px where
  P : Program
  w : World
  K : PySem.W.Frag
abbrev _root_.L2.Cx.px (X : Cx) : Px := ⟨X.prog, X.w, X.K⟩

/-! ### data -/
mutual
/-- the value is that datum, all of whose parts are tracked (a list is one that may be joined to others) -/
inductive Dv (K : PySem.W.Frag) (H : Hp) : V → PyData → Prop
  | non : Dv K H .non .none
  | bl (b : Bool) : Dv K H (.bl b) (.bool b)
  | int (i : Int) : Dv K H (.int i) (.int i)
  | str (x : Str) : Dv K H (.str x) (.str x)
  | lst {a : Addr} {xs : List V} {ds : List PyData} : H a = some (.lst xs) → Dvs K H xs ds → Dv K H (.ref a) (.list ds)
  | tup {a : Addr} {xs : List V} {ds : List PyData} : SqT K H a xs → Dvs K H xs ds → Dv K H (.ref a) (.tuple ds)
inductive Dvs (K : PySem.W.Frag) (H : Hp) : List V → List PyData → Prop
  | nil : Dvs K H [] []
  | cons {v : V} {vs : List V} {d : PyData} {ds : List PyData} : Dv K H v d → Dvs K H vs ds → Dvs K H (v :: vs) (d :: ds)
end
mutual
theorem Dv.dp {K : PySem.W.Frag} {H : Hp} : ∀ (d : PyData) (v : V), Dv K H v d → Dp K H v d
  | .none, _, h => by cases h; exact .non
  | .bool _, _, h => by cases h; exact .bl _
  | .int _, _, h => by cases h; exact .int _
  | .str _, _, h => by cases h; exact .str _
  | .list ds, _, h => by
    cases h with
    | lst h1 h2 => exact .lst (.inl (.inl h1)) (Dvs.dps ds _ h2)
  | .tuple ds, _, h => by
    cases h with
    | tup h1 h2 => exact .tup h1 (Dvs.dps ds _ h2)
  | .dict _, _, h => by cases h
theorem Dvs.dps {K : PySem.W.Frag} {H : Hp} : ∀ (ds : List PyData) (vs : List V), Dvs K H vs ds → DpAll K H vs ds
  | [], _, h => by cases h; exact .nil
  | d :: ds, _, h => by
    cases h with
    | cons h1 h2 => exact .cons (Dv.dp d _ h1) (Dvs.dps ds _ h2)
end

/-! ### dicts by any keys -/
/-- a key's datum as a plain key -/
def nkOf : Key → NestedKey
  | .inl i => .num i
  | .inr s => .text s
/-- the entries of a dict whose keys are tuples: key, the key's place, the value -/
abbrev Ent : Type := NestedKey × Addr × V
def entRel (p : Ent) (q : NestedKey × Addr × Value) : Prop := p.1 = q.1 ∧ p.2.1 = q.2.1 ∧ RelV p.2.2 q.2.2
/-- what is true of a dict object at a with these entries: keys that are tuples; keys that are ints and texts -/
def dPhi (Z : Px) (a : Addr) (es : List Ent) (ep : Nat) : Heap → Prop := fun h =>
  ∃ xs : List (NestedKey × Addr × Value), Paired entRel es xs ∧ ∃ o ee, h.get? a = some o ∧ o.ExactDict ∧ o.data = .dict ee ep ∧ ee.toList = xs.map (entryOfKey (nestedKind Z.P Z.w))
def fPhi (Z : Px) (a : Addr) (es : List (Key × V)) (ep : Nat) : Heap → Prop := fun h => ∃ vs, KV es vs ∧ h.DictAt (mixKind Z.P Z.w) a vs ep
/-- a dict with the keys ks and the values vs stands at a: its keys are ints and texts (false), tuples (true) -/
inductive DicAt (Z : Px) (Fz H : Hp) (a : Addr) : Bool → List NestedKey → List V → Prop where
  | flat (es : List (Key × V)) (ep : Nat) : H a = some (.ext (fPhi Z a es ep)) → es.length ≤ sizeLine → (a == sysModules) = false → DicAt Z Fz H a false (es.map fun p => nkOf p.1) (es.map (·.2))
  | deep (es : List Ent) (ep : Nat) : H a = some (.ext (dPhi Z a es ep)) → (es.map (·.1)).Nodup → es.length ≤ sizeLine → (a == sysModules) = false →
      (∀ e ∈ es, Dv Z.K Fz (.ref e.2.1) e.1.data ∧ e.1.depth ≤ 8) → DicAt Z Fz H a true (es.map (·.1)) (es.map (·.2.2))
def NodeAt (Z : Px) (Fz H : Hp) (a dx : Addr) (vs : List V) : Kd → Prop
  | .lst => H a = some (.lst vs)
  | .dic d ks => DicAt Z Fz H a d ks vs
  | .ins C fs => H a = some (.ins C dx (fs.zip vs)) ∧ fs.length = vs.length ∧ fs.Nodup
mutual
def Own (Z : Px) (Fz H : Hp) : A → V → Prop
  | .dat x, v => Dv Z.K Fz v x
  | .scr ns, v => ∃ a, v = .ref a ∧ SqL Z.K Fz a (ns.map V.int)
  | .nd a dx k ts, v => v = .ref a ∧ ∃ vs, NodeAt Z Fz H a dx vs k ∧ Owns Z Fz H ts vs
def Owns (Z : Px) (Fz H : Hp) : List A → List V → Prop
  | [], vs => vs = []
  | t :: ts, vs => ∃ v vr, vs = v :: vr ∧ Own Z Fz H t v ∧ Owns Z Fz H ts vr
end

/-! ### data stays while what never changes grows -/
mutual
theorem dp_mono {K : PySem.W.Frag} {H H' : Hp} (e : Ex H H') : ∀ (d : PyData) (v : V), Dv K H v d → Dv K H' v d
  | .none, _, h => by cases h; exact .non
  | .bool _, _, h => by cases h; exact .bl _
  | .int _, _, h => by cases h; exact .int _
  | .str _, _, h => by cases h; exact .str _
  | .list ds, _, h => by
    cases h with
    | lst h1 h2 => exact .lst (e _ _ h1) (dps_mono e ds _ h2)
  | .tuple ds, _, h => by
    cases h with
    | tup h1 h2 => exact .tup (ex_t e h1) (dps_mono e ds _ h2)
  | .dict _, _, h => by cases h
theorem dps_mono {K : PySem.W.Frag} {H H' : Hp} (e : Ex H H') : ∀ (ds : List PyData) (vs : List V), Dvs K H vs ds → Dvs K H' vs ds
  | [], _, h => by cases h; exact .nil
  | d :: ds, _, h => by
    cases h with
    | cons h1 h2 => exact .cons (dp_mono e d _ h1) (dps_mono e ds _ h2)
end

section
variable {Z : Px} {Fz Fz' H H' : Hp}
theorem NodeAt.mono {a dx : Addr} {vs : List V} {k : Kd} (ef : Ex Fz Fz') (h : ∀ o, H a = some o → H' a = some o) (n : NodeAt Z Fz H a dx vs k) : NodeAt Z Fz' H' a dx vs k := by
  cases k with
  | lst => exact h _ n
  | dic d ks =>
    cases n with
    | flat es ep e1 e2 e3 => exact .flat es ep (h _ e1) e2 e3
    | deep es ep e1 e4 e5 e6 e7 => exact .deep es ep (h _ e1) e4 e5 e6 fun e he => ⟨dp_mono ef _ _ (e7 e he).1, (e7 e he).2⟩
  | ins C fs => exact ⟨h _ n.1, n.2⟩
theorem NodeAt.has {a dx : Addr} {vs : List V} {k : Kd} (n : NodeAt Z Fz H a dx vs k) : ∃ o, H a = some o := by
  cases k with
  | lst => exact ⟨_, n⟩
  | dic d ks =>
    cases n with
    | flat es ep e1 e2 e3 => exact ⟨_, e1⟩
    | deep es ep e1 e4 e5 e6 e7 => exact ⟨_, e1⟩
  | ins C fs => exact ⟨_, n.1⟩
mutual
theorem Own.mono (ef : Ex Fz Fz') : ∀ (t : A) (v : V), (∀ a ∈ t.ads, ∀ o, H a = some o → H' a = some o) → Own Z Fz H t v → Own Z Fz' H' t v
  | .dat x, v, _, h => dp_mono ef x v h
  | .scr ns, v, _, ⟨a, e, q⟩ => ⟨a, e, ex_l ef q⟩
  | .nd a dx k ts, v, hk, ⟨e, vs, n, os⟩ => ⟨e, vs, n.mono ef (hk a (List.mem_cons_self ..)), Owns.mono ef ts vs (fun b hb => hk b (List.mem_cons_of_mem _ hb)) os⟩
theorem Owns.mono (ef : Ex Fz Fz') : ∀ (ts : List A) (vs : List V), (∀ a ∈ A.adss ts, ∀ o, H a = some o → H' a = some o) → Owns Z Fz H ts vs → Owns Z Fz' H' ts vs
  | [], vs, _, h => h
  | t :: ts, vs, hk, ⟨v, vr, e, o, os⟩ => ⟨v, vr, e, Own.mono ef t v (fun b hb => hk b (List.mem_append_left _ hb)) o, Owns.mono ef ts vr (fun b hb => hk b (List.mem_append_right _ hb)) os⟩
end
mutual
theorem Own.has : ∀ (t : A) (v : V), Own Z Fz H t v → ∀ a ∈ t.ads, ∃ o, H a = some o
  | .dat x, v, h, a, ha => by cases ha
  | .scr ns, v, h, a, ha => by cases ha
  | .nd b dx k ts, v, ⟨e, vs, n, os⟩, a, ha => by
    rcases List.mem_cons.mp ha with rfl | ha
    · exact n.has
    · exact Owns.has ts vs os a ha
theorem Owns.has : ∀ (ts : List A) (vs : List V), Owns Z Fz H ts vs → ∀ a ∈ A.adss ts, ∃ o, H a = some o
  | [], vs, h, a, ha => by cases ha
  | t :: ts, vs, ⟨v, vr, e, o, os⟩, a, ha => by
    rcases List.mem_append.mp ha with ha | ha
    · exact Own.has t v o a ha
    · exact Owns.has ts vr os a ha
end
theorem Own.ext (ef : Ex Fz Fz') (eh : Ex H H') {t : A} {v : V} (h : Own Z Fz H t v) : Own Z Fz' H' t v := Own.mono ef t v (fun a _ o e => eh a o e) h
theorem Owns.ext (ef : Ex Fz Fz') (eh : Ex H H') {ts : List A} {vs : List V} (h : Owns Z Fz H ts vs) : Owns Z Fz' H' ts vs := Owns.mono ef ts vs (fun a _ o e => eh a o e) h
theorem Owns.length : ∀ {ts : List A} {vs : List V}, Owns Z Fz H ts vs → ts.length = vs.length
  | [], _, h => by rw [h]; rfl
  | t :: ts, _, ⟨v, vr, e, o, os⟩ => by rw [e, List.length_cons, List.length_cons, Owns.length os]
theorem Owns.split : ∀ {ts us : List A} {vs : List V}, Owns Z Fz H (ts ++ us) vs → ∃ v1 v2, vs = v1 ++ v2 ∧ Owns Z Fz H ts v1 ∧ Owns Z Fz H us v2
  | [], us, vs, h => ⟨[], vs, rfl, rfl, h⟩
  | t :: ts, us, _, ⟨v, vr, e, o, os⟩ => by
    obtain ⟨v1, v2, e2, o1, o2⟩ := Owns.split (ts := ts) os
    exact ⟨v :: v1, v2, by rw [e, e2]; rfl, ⟨v, v1, rfl, o, o1⟩, o2⟩
theorem Owns.join : ∀ {ts us : List A} {v1 v2 : List V}, Owns Z Fz H ts v1 → Owns Z Fz H us v2 → Owns Z Fz H (ts ++ us) (v1 ++ v2)
  | [], us, _, v2, h, h2 => by rw [show _ = ([] : List V) from h]; exact h2
  | t :: ts, us, _, v2, ⟨v, vr, e, o, os⟩, h2 => by
    rw [e]
    exact ⟨v, vr ++ v2, rfl, o, Owns.join os h2⟩
theorem Owns.at : ∀ {ts : List A} {vs : List V} {i : Nat} {t : A}, Owns Z Fz H ts vs → ts[i]? = some t → ∃ v, vs[i]? = some v ∧ Own Z Fz H t v
  | [], _, _, _, _, e => by cases e
  | u :: ts, _, 0, t, ⟨v, vr, e1, o, os⟩, e => by cases e; exact ⟨v, by rw [e1]; rfl, o⟩
  | u :: ts, _, i + 1, t, ⟨v, vr, e1, o, os⟩, e => by
    obtain ⟨w, h1, h2⟩ := Owns.at (i := i) (t := t) os (by simpa using e)
    exact ⟨w, by rw [e1]; simpa using h1, h2⟩
/-- plain data all along -/
theorem Owns.dats : ∀ {ds : List PyData} {vs : List V}, Owns Z Fz H (ds.map A.dat) vs ↔ Dvs Z.K Fz vs ds
  | [], vs => ⟨fun h => by rw [show vs = [] from h]; exact .nil, fun h => by cases h; rfl⟩
  | d :: ds, vs => ⟨fun ⟨v, vr, e, o, os⟩ => by rw [e]; exact .cons o (Owns.dats.mp os), fun h => by
    cases h with
    | cons h1 h2 => exact ⟨_, _, rfl, h1, Owns.dats.mpr h2⟩⟩
end

/-! ### paths -/
def T.get? : T → List Nat → Option T
  | t, [] => some t
  | .dat _, _ :: _ => none
  | .scr _, _ :: _ => none
  | .nd _ ts, i :: p => match ts[i]? with
    | some c => c.get? p
    | none => none
def A.get? : A → List Nat → Option A
  | t, [] => some t
  | .dat _, _ :: _ => none
  | .scr _, _ :: _ => none
  | .nd _ _ _ ts, i :: p => match ts[i]? with
    | some c => c.get? p
    | none => none
def T.put : T → List Nat → T → T
  | _, [], s => s
  | .dat x, _ :: _, _ => .dat x
  | .scr ns, _ :: _, _ => .scr ns
  | .nd k ts, i :: p, s => match ts[i]? with
    | some c => .nd k (ts.set i (c.put p s))
    | none => .nd k ts
def A.put : A → List Nat → A → A
  | _, [], s => s
  | .dat x, _ :: _, _ => .dat x
  | .scr ns, _ :: _, _ => .scr ns
  | .nd a dx k ts, i :: p, s => match ts[i]? with
    | some c => .nd a dx k (ts.set i (c.put p s))
    | none => .nd a dx k ts
theorem A.er_get : ∀ (p : List Nat) (t : A), t.er.get? p = (t.get? p).map A.er
  | [], t => by
    rw [show t.er.get? [] = some t.er by cases t <;> rfl, show t.get? [] = some t by cases t <;> rfl]
    rfl
  | i :: p, .dat x => rfl
  | i :: p, .scr x => rfl
  | i :: p, .nd a dx k ts => by
    show (match (A.ers ts)[i]? with | some c => c.get? p | none => none) = _
    rw [A.ers_eq, List.getElem?_map]
    show _ = (match ts[i]? with | some c => c.get? p | none => none).map A.er
    cases ts[i]? with
    | none => rfl
    | some c => exact A.er_get p c
theorem A.er_put : ∀ (p : List Nat) (t s : A), (t.put p s).er = t.er.put p s.er
  | [], t, s => by
    rw [show t.put [] s = s by cases t <;> rfl, show t.er.put [] s.er = s.er by cases t <;> rfl]
  | i :: p, .dat x, s => rfl
  | i :: p, .scr x, s => rfl
  | i :: p, .nd a dx k ts, s => by
    show (match ts[i]? with | some c => A.nd a dx k (ts.set i (c.put p s)) | none => .nd a dx k ts).er = (match (A.ers ts)[i]? with | some c => T.nd k ((A.ers ts).set i (c.put p s.er)) | none => .nd k (A.ers ts))
    rw [A.ers_eq, List.getElem?_map]
    cases ts[i]? with
    | none => show T.nd k (A.ers ts) = _; rw [A.ers_eq]; rfl
    | some c =>
      show T.nd k (A.ers (ts.set i (c.put p s))) = T.nd k ((ts.map A.er).set i (c.er.put p s.er))
      rw [A.ers_eq, List.map_set, A.er_put p c s]
theorem A.get_nil (t : A) : t.get? [] = some t := by cases t <;> rfl
theorem A.put_nil (t s : A) : t.put [] s = s := by cases t <;> rfl
theorem T.get_nil (t : T) : t.get? [] = some t := by cases t <;> rfl
theorem T.put_nil (t s : T) : t.put [] s = s := by cases t <;> rfl
theorem split_at {α : Type} {l : List α} {i : Nat} {x : α} (h : l[i]? = some x) : ∃ l1 l2, l = l1 ++ x :: l2 ∧ l1.length = i := by
  obtain ⟨hi, e⟩ := List.getElem?_eq_some_iff.mp h
  refine ⟨l.take i, l.drop (i + 1), ?_, by simp; omega⟩
  rw [← e]
  simp
theorem set_split {α : Type} {l1 l2 : List α} {x y : α} : (l1 ++ x :: l2).set l1.length y = l1 ++ y :: l2 := by
  simp
/-- a tree's part at a path: read, and put another one in its place -/
theorem Own.at_ {Z : Px} {Fz H : Hp} : ∀ (p : List Nat) (t : A) (v : V) (s : A), Own Z Fz H t v → t.get? p = some s →
    ∃ (sv : V) (l r : List Addr), Own Z Fz H s sv ∧ t.ads = l ++ s.ads ++ r ∧ (p = [] → sv = v) ∧ ∀ s' : A, (t.put p s').ads = l ++ s'.ads ++ r ∧
      ∀ Fz' H', Ex Fz Fz' → (∀ b, b ∈ l ∨ b ∈ r → ∀ o, H b = some o → H' b = some o) → Own Z Fz' H' s' sv → Own Z Fz' H' (t.put p s') v
  | [], t, v, s, h, e => by
    rw [A.get_nil] at e
    cases e
    refine ⟨v, [], [], h, by simp, fun _ => rfl, fun s' => ?_⟩
    rw [A.put_nil]
    exact ⟨by simp, fun _ _ _ _ h' => h'⟩
  | i :: p, .dat x, v, s, h, e => by cases e
  | i :: p, .scr x, v, s, h, e => by cases e
  | i :: p, .nd a dx k ts, v, s, ⟨ev, vs, n, os⟩, e => by
    have e' : (match ts[i]? with | some c => c.get? p | none => none) = some s := e
    cases hc : ts[i]? with
    | none => rw [hc] at e'; cases e'
    | some c =>
      rw [hc] at e'
      obtain ⟨t1, t2, et, hl⟩ := split_at hc
      subst et
      obtain ⟨v1, v2, evs, o1, ⟨cv, vr, ev2, oc, o2⟩⟩ := os.split
      subst ev2
      obtain ⟨sv, l, r, hs, ha, hp, q⟩ := Own.at_ p c cv s oc e'
      refine ⟨sv, a :: (A.adss t1 ++ l), r ++ A.adss t2, hs, ?_, (fun z => nomatch z), fun s' => ?_⟩
      · show a :: A.adss (t1 ++ c :: t2) = _
        rw [A.adss_append, A.adss, ha]
        simp [List.append_assoc]
      · have hput : (A.nd a dx k (t1 ++ c :: t2)).put (i :: p) s' = .nd a dx k (t1 ++ c.put p s' :: t2) := by
          simp only [A.put, hc]
          rw [← hl, set_split]
        rw [hput]
        obtain ⟨qa, qo⟩ := q s'
        refine ⟨?_, fun Fz' H' ef hk h' => ?_⟩
        · show a :: A.adss (t1 ++ c.put p s' :: t2) = _
          rw [A.adss_append, A.adss, qa]
          simp [List.append_assoc]
        · refine ⟨ev, vs, n.mono ef (hk a (.inl (List.mem_cons_self ..))), ?_⟩
          rw [evs]
          refine Owns.join (Owns.mono ef t1 v1 (fun b hb => hk b (.inl (List.mem_cons_of_mem _ (List.mem_append_left _ hb)))) o1) ⟨cv, vr, rfl, ?_, Owns.mono ef t2 vr (fun b hb => hk b (.inr (List.mem_append_right _ hb))) o2⟩
          exact qo Fz' H' ef (fun b hb => hk b (hb.elim (fun z => .inl (List.mem_cons_of_mem _ (List.mem_append_right _ z))) fun z => .inr (List.mem_append_left _ z))) h'
end DL

set_option maxRecDepth 100000
namespace DL
open PySem PySem.Spec PyProof.Rows L2
open Evl (Ex Ex.refl Ex.trans Ex.new Ex.mut ex_l ex_t ex_rd fresh_back)

/-! ### slots -/
inductive Sl (α : Type) where
  | un
  | own (t : α)
  | io (t : α)
  | lnk (j : Nat) (p : List Nat)
  | out (io : Bool)
abbrev En := List (Sl T)
abbrev AEn := List (Sl A)
def Sl.tr {α : Type} : Sl α → Option α
  | .own t => some t
  | .io t => some t
  | _ => none
def Sl.isIo {α : Type} : Sl α → Bool
  | .io _ => true
  | .out b => b
  | _ => false
def Sl.map {α β : Type} (f : α → β) : Sl α → Sl β
  | .un => .un
  | .own t => .own (f t)
  | .io t => .io (f t)
  | .lnk j p => .lnk j p
  | .out b => .out b
/-- another tree in the same sort of slot -/
def Sl.with {α : Type} : Sl α → α → Sl α
  | .own _, t => .own t
  | .io _, t => .io t
  | s, _ => s
/-- links into the tree of slot j, deeper than n, are forgotten -/
def Sl.kill {α : Type} (j n : Nat) : Sl α → Sl α
  | .lnk k q => bif Nat.beq k j && Nat.ble n q.length then .un else .lnk k q
  | s => s
theorem Sl.kill_tr {α : Type} (j n : Nat) (s : Sl α) : (s.kill j n).tr = s.tr := by
  cases s with
  | lnk k q =>
    show (bif Nat.beq k j && Nat.ble n q.length then Sl.un else Sl.lnk k q : Sl α).tr = none
    cases Nat.beq k j && Nat.ble n q.length <;> rfl
  | _ => rfl
theorem Sl.kill_io {α : Type} (j n : Nat) (s : Sl α) : (s.kill j n).isIo = s.isIo := by
  cases s with
  | lnk k q =>
    show (bif Nat.beq k j && Nat.ble n q.length then Sl.un else Sl.lnk k q : Sl α).isIo = false
    cases Nat.beq k j && Nat.ble n q.length <;> rfl
  | _ => rfl
theorem Sl.with_io {α : Type} (s : Sl α) (t : α) : (s.with t).isIo = s.isIo := by cases s <;> rfl
theorem Sl.kill_lnk {α : Type} {j n : Nat} {s : Sl α} {k : Nat} {q : List Nat} (h : s.kill j n = .lnk k q) : s = .lnk k q ∧ ¬ (k = j ∧ n ≤ q.length) := by
  cases s with
  | lnk k' q' =>
    have h' : (bif Nat.beq k' j && Nat.ble n q'.length then Sl.un else Sl.lnk k' q' : Sl α) = .lnk k q := h
    cases e : (Nat.beq k' j && Nat.ble n q'.length) with
    | true => rw [e] at h'; cases h'
    | false =>
      rw [e] at h'
      cases h'
      refine ⟨rfl, fun ⟨e1, e2⟩ => ?_⟩
      rw [e1, Nat.beq_refl, Nat.ble_eq_true_of_le e2] at e
      cases e
  | _ => cases h
theorem Sl.kill_own {α : Type} {j n : Nat} {s : Sl α} {t : α} (h : s.kill j n = .own t) : s = .own t := by
  cases s with
  | lnk k q =>
    have h' : (bif Nat.beq k j && Nat.ble n q.length then Sl.un else Sl.lnk k q : Sl α) = .own t := h
    cases e : (Nat.beq k j && Nat.ble n q.length) <;> rw [e] at h' <;> cases h'
  | _ => exact h
theorem Sl.kill_map {α β : Type} (f : α → β) (j n : Nat) (s : Sl α) : (s.kill j n).map f = (s.map f).kill j n := by
  cases s with
  | lnk k q =>
    show (bif Nat.beq k j && Nat.ble n q.length then Sl.un else Sl.lnk k q : Sl α).map f = (bif Nat.beq k j && Nat.ble n q.length then Sl.un else Sl.lnk k q)
    cases Nat.beq k j && Nat.ble n q.length <;> rfl
  | _ => rfl
theorem Sl.with_tr {α : Type} {s : Sl α} {t t' : α} (h : s.tr = some t) : (s.with t').tr = some t' := by
  cases s <;> first | rfl | cases h
theorem Sl.map_tr {α β : Type} (f : α → β) (s : Sl α) : (s.map f).tr = s.tr.map f := by cases s <;> rfl
def Sl.ads : Sl A → List Addr
  | .own t => t.ads
  | .io t => t.ads
  | _ => []
theorem Sl.ads_tr {s : Sl A} {t : A} (h : s.tr = some t) : s.ads = t.ads := by
  cases s <;> first | (cases h; rfl) | cases h
theorem Sl.kill_ads (j n : Nat) (s : Sl A) : (s.kill j n).ads = s.ads := by
  cases s with
  | lnk k q =>
    show (bif Nat.beq k j && Nat.ble n q.length then Sl.un else Sl.lnk k q : Sl A).ads = []
    cases Nat.beq k j && Nat.ble n q.length <;> rfl
  | _ => rfl
def AEn.er (ev : AEn) : En := ev.map (Sl.map A.er)
def AEn.ads (ev : AEn) : List Addr := ev.flatMap Sl.ads
theorem AEn.er_get (ev : AEn) (i : Nat) : (AEn.er ev)[i]? = (ev[i]?).map (Sl.map A.er) := by
  unfold AEn.er
  rw [List.getElem?_map]
theorem AEn.er_get_some {ev : AEn} {i : Nat} {s : Sl T} (h : (AEn.er ev)[i]? = some s) : ∃ u, ev[i]? = some u ∧ u.map A.er = s := by
  rw [AEn.er_get] at h
  cases e : ev[i]? with
  | none => rw [e] at h; cases h
  | some u => rw [e] at h; exact ⟨u, rfl, Option.some.inj h⟩
/-- forget the links into slot j that are deeper than n - 1 -/
def killL {α : Type} (j n : Nat) (ev : List (Sl α)) : List (Sl α) := ev.map (Sl.kill j n)
theorem killL_er (j n : Nat) (ev : AEn) : AEn.er (killL j n ev) = killL j n (AEn.er ev) := by
  unfold AEn.er killL
  rw [List.map_map, List.map_map]
  exact List.map_congr_left fun s _ => Sl.kill_map A.er j n s
theorem killL_ads (j n : Nat) (ev : AEn) : AEn.ads (killL j n ev) = AEn.ads ev := by
  unfold AEn.ads killL
  rw [List.flatMap_map]
  exact congrArg (fun f => ev.flatMap f) (funext fun s => Sl.kill_ads j n s)
theorem killL_get {α : Type} {j n : Nat} {ev : List (Sl α)} {i : Nat} {s : Sl α} (h : (killL j n ev)[i]? = some s) : ∃ u, ev[i]? = some u ∧ u.kill j n = s := by
  unfold killL at h
  rw [List.getElem?_map] at h
  cases e : ev[i]? with
  | none => rw [e] at h; cases h
  | some u => rw [e] at h; exact ⟨u, rfl, Option.some.inj h⟩
theorem killL_length {α : Type} (j n : Nat) (ev : List (Sl α)) : (killL j n ev).length = ev.length := by
  unfold killL
  rw [List.length_map]
theorem er_set (ev : AEn) (i : Nat) (s : Sl A) : AEn.er (ev.set i s) = (AEn.er ev).set i (s.map A.er) := by
  unfold AEn.er
  rw [List.map_set]
/-- the addresses around a slot -/
theorem ads_at {ev : AEn} {i : Nat} {u : Sl A} (h : ev[i]? = some u) : ∃ l r, AEn.ads ev = l ++ u.ads ++ r ∧ ∀ s : Sl A, AEn.ads (ev.set i s) = l ++ s.ads ++ r := by
  obtain ⟨l1, l2, e, hl⟩ := split_at h
  refine ⟨AEn.ads l1, AEn.ads l2, ?_, fun s => ?_⟩
  · rw [e]
    unfold AEn.ads
    rw [List.flatMap_append, List.flatMap_cons, List.append_assoc]
  · rw [e, ← hl, set_split]
    unfold AEn.ads
    rw [List.flatMap_append, List.flatMap_cons, List.append_assoc]

/-! ### frames: whatever else is held -/
structure Fr where
  pin : Nat → Option V
  ads : List Addr
  ok : Hp → Hp → Prop
  mono : ∀ {Fz Fz' H H' : Hp}, Ex Fz Fz' → (∀ a ∈ ads, ∀ o, H a = some o → H' a = some o) → ok Fz H → ok Fz' H'
  has : ∀ {Fz H : Hp}, ok Fz H → ∀ a ∈ ads, ∃ o, H a = some o
def Fr.nil : Fr := ⟨fun _ => none, [], fun _ _ => True, fun _ _ _ => True.intro, fun _ _ h => nomatch h⟩
def Fr.of (Z : Px) (t : A) (v : V) : Fr := ⟨fun _ => none, t.ads, fun Fz H => Own Z Fz H t v, fun e k h => Own.mono e t v k h, fun h => Own.has t v h⟩
def Fr.ofs (Z : Px) (ts : List A) (vs : List V) : Fr := ⟨fun _ => none, A.adss ts, fun Fz H => Owns Z Fz H ts vs, fun e k h => Owns.mono e ts vs k h, fun h => Owns.has ts vs h⟩
def Fr.add (F G : Fr) : Fr := ⟨F.pin, F.ads ++ G.ads, fun Fz H => F.ok Fz H ∧ G.ok Fz H,
  fun e k h => ⟨F.mono e (fun a ha => k a (List.mem_append_left _ ha)) h.1, G.mono e (fun a ha => k a (List.mem_append_right _ ha)) h.2⟩,
  fun h a ha => (List.mem_append.mp ha).elim (F.has h.1 a) (G.has h.2 a)⟩

/-! ### the state of a frame of Python, as trees -/
structure SA (Z : Px) (Fz H : Hp) (σ : L2.St) (ev : AEn) (F : Fr) : Prop where
  ex : Ex Fz H
  sl : ∀ (i : Nat) (u : Sl A) (t : A), ev[i]? = some u → u.tr = some t → ∃ v, σ[i]? = some (some v) ∧ Own Z Fz H t v
  lk : ∀ (i j : Nat) (p : List Nat), ev[i]? = some (.lnk j p) → ∃ u t a dx k ts, ev[j]? = some u ∧ u.tr = some t ∧ t.get? p = some (.nd a dx k ts) ∧ σ[i]? = some (some (.ref a))
  fr : F.ok Fz H
  nd : (AEn.ads ev ++ F.ads).Nodup
  fz : ∀ a ∈ AEn.ads ev ++ F.ads, Fz a = none
  len : ev.length = σ.length
  pn : ∀ (i : Nat) (u : Sl A), ev[i]? = some u → u.isIo = true → ∃ v, F.pin i = some v ∧ σ[i]? = some (some v)

section
variable {Z : Px} {Fz Fz' H H' : Hp} {σ : L2.St} {ev : AEn} {F G : Fr}
theorem mem_ads {ev : AEn} {a : Addr} (h : a ∈ AEn.ads ev) : ∃ (i : Nat) (u : Sl A) (t : A), ev[i]? = some u ∧ u.tr = some t ∧ a ∈ t.ads := by
  obtain ⟨u, hu, ha⟩ := List.mem_flatMap.mp h
  obtain ⟨i, hi, e⟩ := List.getElem_of_mem hu
  refine ⟨i, u, ?_⟩
  cases u with
  | un => cases ha
  | own t => exact ⟨t, by rw [List.getElem?_eq_getElem hi, e], rfl, ha⟩
  | io t => exact ⟨t, by rw [List.getElem?_eq_getElem hi, e], rfl, ha⟩
  | lnk j p => cases ha
  | out b => cases ha
theorem ads_mem {ev : AEn} {i : Nat} {u : Sl A} {t : A} {a : Addr} (h : ev[i]? = some u) (e : u.tr = some t) (ha : a ∈ t.ads) : a ∈ AEn.ads ev :=
  List.mem_flatMap.mpr ⟨u, List.mem_of_getElem? h, by rw [Sl.ads_tr e]; exact ha⟩
theorem SA.has (S : SA Z Fz H σ ev F) {a : Addr} (ha : a ∈ AEn.ads ev ++ F.ads) : ∃ o, H a = some o := by
  rcases List.mem_append.mp ha with h | h
  · obtain ⟨i, u, t, e1, e2, m⟩ := mem_ads h
    obtain ⟨v, _, o⟩ := S.sl i u t e1 e2
    exact Own.has t v o a m
  · exact F.has S.fr a h
/-- what is held stays, what never changes grows -/
theorem SA.keep (S : SA Z Fz H σ ev F) (ef : Ex Fz Fz') (ex : Ex Fz' H') (k : ∀ a ∈ AEn.ads ev ++ F.ads, ∀ o, H a = some o → H' a = some o) (n : ∀ a ∈ AEn.ads ev ++ F.ads, Fz' a = none) : SA Z Fz' H' σ ev F where
  ex := ex
  sl := fun i u t e1 e2 => by
    obtain ⟨v, h1, h2⟩ := S.sl i u t e1 e2
    exact ⟨v, h1, Own.mono ef t v (fun a ha => k a (List.mem_append_left _ (ads_mem e1 e2 ha))) h2⟩
  lk := S.lk
  fr := F.mono ef (fun a ha => k a (List.mem_append_right _ ha)) S.fr
  nd := S.nd
  fz := n
  len := S.len
  pn := S.pn
/-- a new object that never changes -/
theorem SA.new (S : SA Z Fz H σ ev F) {p : Addr} {o : HO} (h : H p = none) : Ex Fz (upd Fz p o) ∧ Ex H (upd H p o) ∧ SA Z (upd Fz p o) (upd H p o) σ ev F := by
  have hF : Fz p = none := by
    cases e : Fz p with
    | none => rfl
    | some u => rw [S.ex p u e] at h; cases h
  have ne : ∀ a ∈ AEn.ads ev ++ F.ads, a ≠ p := fun a ha e => by
    obtain ⟨u, hu⟩ := S.has ha
    rw [e, h] at hu; cases hu
  refine ⟨Ex.new hF, Ex.new h, S.keep (Ex.new hF) (fun a u e => ?_) (fun a ha u e => by rw [upd_ne (ne a ha)]; exact e) fun a ha => by rw [upd_ne (ne a ha)]; exact S.fz a ha⟩
  by_cases hp : a = p
  · subst hp; rw [upd_same] at e ⊢; exact e
  · rw [upd_ne hp] at e ⊢; exact S.ex a u e
/-- only the heap grows -/
theorem SA.grow (S : SA Z Fz H σ ev F) (e : Ex H H') : SA Z Fz H' σ ev F := S.keep (Ex.refl _) (S.ex.trans e) (fun a _ o h => e a o h) S.fz
/-- something more is held -/
theorem SA.push (S : SA Z Fz H σ ev F) (g : G.ok Fz H) (nd : G.ads.Nodup) (n : ∀ a ∈ G.ads, Fz a = none ∧ a ∉ AEn.ads ev ∧ a ∉ F.ads) : SA Z Fz H σ ev (F.add G) where
  ex := S.ex
  sl := S.sl
  lk := S.lk
  fr := ⟨S.fr, g⟩
  nd := by
    show (AEn.ads ev ++ (F.ads ++ G.ads)).Nodup
    rw [← List.append_assoc]
    refine List.nodup_append.mpr ⟨S.nd, nd, fun a ha b hb e => ?_⟩
    subst e
    rcases List.mem_append.mp ha with h | h
    · exact (n a hb).2.1 h
    · exact (n a hb).2.2 h
  fz := fun a ha => by
    have ha' : a ∈ AEn.ads ev ++ (F.ads ++ G.ads) := ha
    rw [← List.append_assoc] at ha'
    rcases List.mem_append.mp ha' with h | h
    · exact S.fz a h
    · exact (n a h).1
  len := S.len
  pn := S.pn
theorem SA.pushD (S : SA Z Fz H σ ev F) {x : PyData} {v : V} (h : Dv Z.K Fz v x) : SA Z Fz H σ ev (F.add (.of Z (.dat x) v)) := S.push h List.nodup_nil fun a ha => nomatch ha
/-- a new object of our own -/
theorem SA.pushN (S : SA Z Fz H σ ev F) {p : Addr} {k : Kd} {dx : Addr} {vs : List V} {o : HO} (h : H p = none) (n : NodeAt Z Fz (upd H p o) p dx vs k) {ts : List A} (os : Owns Z Fz H ts vs) (hd : A.adss ts = []) :
    SA Z Fz (upd H p o) σ ev (F.add (.of Z (.nd p dx k ts) (.ref p))) := by
  have S' : SA Z Fz (upd H p o) σ ev F := S.grow (Ex.new h)
  have hF : Fz p = none := by
    cases e : Fz p with
    | none => rfl
    | some u => rw [S.ex p u e] at h; cases h
  have e1 : (Fr.of Z (.nd p dx k ts) (.ref p)).ads = [p] := by
    show p :: A.adss ts = [p]
    rw [hd]
  refine S'.push ⟨rfl, vs, n, os.ext (Ex.refl _) (Ex.new h)⟩ (by rw [e1]; simp) fun a ha => ?_
  rw [e1] at ha
  have : a = p := by simpa using ha
  subst this
  refine ⟨hF, fun m => ?_, fun m => ?_⟩
  · obtain ⟨u, hu⟩ := S.has (List.mem_append_left _ m)
    rw [h] at hu; cases hu
  · obtain ⟨u, hu⟩ := S.has (List.mem_append_right _ m)
    rw [h] at hu; cases hu
/-- less is held -/
theorem SA.sub (S : SA Z Fz H σ ev F) (h : G.ok Fz H) (s : G.ads.Sublist F.ads) (hp : G.pin = F.pin) : SA Z Fz H σ ev G where
  ex := S.ex
  sl := S.sl
  lk := S.lk
  fr := h
  nd := S.nd.sublist (List.Sublist.append (List.Sublist.refl _) s)
  fz := fun a ha => S.fz a ((List.Sublist.append (List.Sublist.refl _) s).subset ha)
  len := S.len
  pn := fun i u e1 e2 => by rw [hp]; exact S.pn i u e1 e2
theorem SA.pop (S : SA Z Fz H σ ev (F.add G)) : SA Z Fz H σ ev F := S.sub S.fr.1 (List.sublist_append_left _ _) rfl
theorem SA.drop {G' : Fr} (S : SA Z Fz H σ ev ((F.add G).add G')) : SA Z Fz H σ ev (F.add G') := S.sub ⟨S.fr.1.1, S.fr.2⟩ (List.Sublist.append (List.sublist_append_left _ _) (List.Sublist.refl _)) rfl
/-- name = what was just made -/
theorem SA.put (S : SA Z Fz H σ ev (F.add (.of Z t v))) {i : Nat} (hi : i < ev.length) : SA Z Fz H (σ.set i (some v)) (killL i 0 (ev.set i (.own t))) F where
  ex := S.ex
  sl := fun j u t' e1 e2 => by
    obtain ⟨u', e3, e4⟩ := killL_get e1
    subst e4
    rw [Sl.kill_tr] at e2
    by_cases hj : i = j
    · subst hj
      rw [List.getElem?_set_self hi] at e3
      cases e3
      cases e2
      exact ⟨v, by rw [List.getElem?_set_self (by rw [← S.len]; exact hi)], S.fr.2⟩
    · rw [List.getElem?_set_ne hj] at e3
      rw [List.getElem?_set_ne hj]
      exact S.sl j u' t' e3 e2
  lk := fun j k p e => by
    obtain ⟨u', e3, e4⟩ := killL_get e
    obtain ⟨e5, e6⟩ := Sl.kill_lnk e4
    subst e5
    have hk : k ≠ i := fun z => e6 ⟨z, Nat.zero_le _⟩
    by_cases hj : i = j
    · subst hj
      rw [List.getElem?_set_self hi] at e3
      cases e3
    · rw [List.getElem?_set_ne hj] at e3
      obtain ⟨u, t', a, dx, kd, ts, g1, g2, g3, g4⟩ := S.lk j k p e3
      refine ⟨u.kill i 0, t', a, dx, kd, ts, ?_, by rw [Sl.kill_tr]; exact g2, g3, by rw [List.getElem?_set_ne hj]; exact g4⟩
      unfold killL
      rw [List.getElem?_map, List.getElem?_set_ne (Ne.symm hk), g1]
      rfl
  fr := S.fr.1
  nd := by
    obtain ⟨u, hu⟩ : ∃ u, ev[i]? = some u := ⟨ev[i], List.getElem?_eq_getElem hi⟩
    obtain ⟨l, r, e1, e2⟩ := ads_at hu
    rw [killL_ads, e2]
    have h := S.nd
    rw [e1] at h
    have h' : (l ++ u.ads ++ r ++ (F.ads ++ t.ads)).Nodup := h
    have p : (l ++ t.ads ++ r ++ F.ads ++ u.ads).Perm (l ++ u.ads ++ r ++ (F.ads ++ t.ads)) := by
      simp only [List.append_assoc]
      refine List.Perm.append_left l ?_
      refine (List.perm_append_comm (l₁ := t.ads) (l₂ := r ++ (F.ads ++ u.ads))).trans ?_
      have q : (r ++ (F.ads ++ u.ads)).Perm (u.ads ++ (r ++ F.ads)) := by
        rw [← List.append_assoc]; exact List.perm_append_comm
      refine (q.append_right t.ads).trans ?_
      simp only [List.append_assoc]
      exact List.Perm.refl _
    have h2 := (p.nodup_iff).mpr h'
    exact (List.nodup_append.mp h2).1
  fz := fun a ha => by
    obtain ⟨u, hu⟩ : ∃ u, ev[i]? = some u := ⟨ev[i], List.getElem?_eq_getElem hi⟩
    obtain ⟨l, r, e1, e2⟩ := ads_at hu
    rw [killL_ads, e2] at ha
    refine S.fz a ?_
    rw [e1]
    show a ∈ l ++ u.ads ++ r ++ (F.ads ++ t.ads)
    simp only [List.mem_append] at ha ⊢
    have ha' : ((a ∈ l ∨ a ∈ t.ads) ∨ a ∈ r) ∨ a ∈ F.ads := ha
    rcases ha' with ((h | h) | h) | h
    · exact .inl (.inl (.inl h))
    · exact .inr (.inr h)
    · exact .inl (.inr h)
    · exact .inr (.inl h)
  len := by rw [killL_length, List.length_set, List.length_set]; exact S.len
  pn := fun j u e1 e2 => by
    obtain ⟨u', e3, e4⟩ := killL_get e1
    subst e4
    rw [Sl.kill_io] at e2
    by_cases hj : i = j
    · subst hj
      rw [List.getElem?_set_self hi] at e3
      cases e3
      cases e2
    · rw [List.getElem?_set_ne hj] at e3
      rw [List.getElem?_set_ne hj]
      exact S.pn j u' e3 e2
/-- a slot forgotten -/
theorem SA.wipe1 (S : SA Z Fz H σ ev F) {i : Nat} (hi : i < ev.length) : SA Z Fz H (σ.set i none) (killL i 0 (ev.set i .un)) F where
  ex := S.ex
  sl := fun j u t' e1 e2 => by
    obtain ⟨u', e3, e4⟩ := killL_get e1
    subst e4
    rw [Sl.kill_tr] at e2
    by_cases hj : i = j
    · subst hj
      rw [List.getElem?_set_self hi] at e3
      cases e3
      cases e2
    · rw [List.getElem?_set_ne hj] at e3
      rw [List.getElem?_set_ne hj]
      exact S.sl j u' t' e3 e2
  lk := fun j k p e => by
    obtain ⟨u', e3, e4⟩ := killL_get e
    obtain ⟨e5, e6⟩ := Sl.kill_lnk e4
    subst e5
    have hk : k ≠ i := fun z => e6 ⟨z, Nat.zero_le _⟩
    by_cases hj : i = j
    · subst hj
      rw [List.getElem?_set_self hi] at e3
      cases e3
    · rw [List.getElem?_set_ne hj] at e3
      obtain ⟨u, t', a, dx, kd, ts, g1, g2, g3, g4⟩ := S.lk j k p e3
      refine ⟨u.kill i 0, t', a, dx, kd, ts, ?_, by rw [Sl.kill_tr]; exact g2, g3, by rw [List.getElem?_set_ne hj]; exact g4⟩
      unfold killL
      rw [List.getElem?_map, List.getElem?_set_ne (Ne.symm hk), g1]
      rfl
  fr := S.fr
  nd := by
    obtain ⟨u, hu⟩ : ∃ u, ev[i]? = some u := ⟨ev[i], List.getElem?_eq_getElem hi⟩
    obtain ⟨l, r, e1, e2⟩ := ads_at hu
    rw [killL_ads, e2]
    have h := S.nd
    rw [e1] at h
    refine h.sublist ?_
    show (l ++ [] ++ r ++ F.ads).Sublist (l ++ u.ads ++ r ++ F.ads)
    refine List.Sublist.append (List.Sublist.append (List.Sublist.append (List.Sublist.refl _) (List.nil_sublist _)) (List.Sublist.refl _)) (List.Sublist.refl _)
  fz := fun a ha => by
    obtain ⟨u, hu⟩ : ∃ u, ev[i]? = some u := ⟨ev[i], List.getElem?_eq_getElem hi⟩
    obtain ⟨l, r, e1, e2⟩ := ads_at hu
    rw [killL_ads, e2] at ha
    refine S.fz a ?_
    rw [e1]
    have ha' : a ∈ l ++ [] ++ r ++ F.ads := ha
    simp only [List.append_nil, List.mem_append] at ha' ⊢
    rcases ha' with (h | h) | h
    · exact .inl (.inl (.inl h))
    · exact .inl (.inr h)
    · exact .inr h
  len := by rw [killL_length, List.length_set, List.length_set]; exact S.len
  pn := fun j u e1 e2 => by
    obtain ⟨u', e3, e4⟩ := killL_get e1
    subst e4
    rw [Sl.kill_io] at e2
    by_cases hj : i = j
    · subst hj
      rw [List.getElem?_set_self hi] at e3
      cases e3
      cases e2
    · rw [List.getElem?_set_ne hj] at e3
      rw [List.getElem?_set_ne hj]
      exact S.pn j u' e3 e2
end
end DL

set_option maxRecDepth 100000
namespace DL
open PySem PySem.Spec PyProof.Rows L2
open Evl (Ex Ex.refl Ex.trans Ex.new Ex.mut ex_l ex_t ex_rd fresh_back)

/-! ### a part of a tree changes -/
theorem A.get_put_short {a dx : Addr} {k k' : Kd} {ts ts' : List A} : ∀ (p q : List Nat) (t : A), t.get? p = some (.nd a dx k ts) → q.length ≤ p.length →
    ∀ {a1 dx1 : Addr} {k1 : Kd} {ts1 : List A}, t.get? q = some (.nd a1 dx1 k1 ts1) → ∃ k2 ts2, (t.put p (.nd a dx k' ts')).get? q = some (.nd a1 dx1 k2 ts2)
  | [], q, t, h, hl, a1, dx1, k1, ts1, h1 => by
    have hq : q = [] := List.eq_nil_of_length_eq_zero (Nat.le_zero.mp hl)
    subst hq
    rw [A.get_nil] at h h1
    rw [Option.some.inj h] at h1
    cases h1
    rw [A.put_nil, A.get_nil]
    exact ⟨_, _, rfl⟩
  | i :: p, [], .dat x, h, hl, _, _, _, _, h1 => by cases h1
  | i :: p, [], .scr x, h, hl, _, _, _, _, h1 => by cases h1
  | i :: p, [], .nd a0 dx0 k0 ts0, h, hl, a1, dx1, k1, ts1, h1 => by
    cases h1
    simp only [A.put]
    cases ts0[i]? with
    | none => exact ⟨_, _, rfl⟩
    | some c => exact ⟨_, _, rfl⟩
  | i :: p, j :: q, .dat x, h, hl, _, _, _, _, h1 => by cases h1
  | i :: p, j :: q, .scr x, h, hl, _, _, _, _, h1 => by cases h1
  | i :: p, j :: q, .nd a0 dx0 k0 ts0, h, hl, a1, dx1, k1, ts1, h1 => by
    simp only [A.get?] at h h1
    simp only [A.put]
    cases hi : ts0[i]? with
    | none => rw [hi] at h; cases h
    | some c =>
      rw [hi] at h
      simp only [A.get?]
      by_cases hij : i = j
      · subst hij
        rw [hi] at h1
        rw [List.getElem?_set_self (List.getElem?_eq_some_iff.mp hi).1]
        exact A.get_put_short p q c h (Nat.le_of_succ_le_succ hl) h1
      · rw [List.getElem?_set_ne hij]
        cases hj : ts0[j]? with
        | none => rw [hj] at h1; cases h1
        | some d => rw [hj] at h1; exact ⟨_, _, h1⟩
theorem A.get_put_grow {a dx : Addr} {k k' : Kd} {ts ts' : List A} (hg : ∀ (i : Nat) (c : A), ts[i]? = some c → ts'[i]? = some c) : ∀ (p q : List Nat) (t : A), t.get? p = some (.nd a dx k ts) →
    ∀ {a1 dx1 : Addr} {k1 : Kd} {ts1 : List A}, t.get? q = some (.nd a1 dx1 k1 ts1) → ∃ k2 ts2, (t.put p (.nd a dx k' ts')).get? q = some (.nd a1 dx1 k2 ts2)
  | [], q, t, h, a1, dx1, k1, ts1, h1 => by
    rw [A.get_nil] at h
    rw [Option.some.inj h] at h1
    rw [A.put_nil]
    cases q with
    | nil => cases h1; exact ⟨_, _, rfl⟩
    | cons j q =>
      simp only [A.get?] at h1 ⊢
      cases hj : ts[j]? with
      | none => rw [hj] at h1; cases h1
      | some c => rw [hj] at h1; rw [hg j c hj]; exact ⟨_, _, h1⟩
  | i :: p, [], .dat x, h, _, _, _, _, h1 => by cases h1
  | i :: p, [], .scr x, h, _, _, _, _, h1 => by cases h1
  | i :: p, [], .nd a0 dx0 k0 ts0, h, a1, dx1, k1, ts1, h1 => by
    cases h1
    simp only [A.put]
    cases ts0[i]? with
    | none => exact ⟨_, _, rfl⟩
    | some c => exact ⟨_, _, rfl⟩
  | i :: p, j :: q, .dat x, h, _, _, _, _, h1 => by cases h1
  | i :: p, j :: q, .scr x, h, _, _, _, _, h1 => by cases h1
  | i :: p, j :: q, .nd a0 dx0 k0 ts0, h, a1, dx1, k1, ts1, h1 => by
    simp only [A.get?] at h h1
    simp only [A.put]
    cases hi : ts0[i]? with
    | none => rw [hi] at h; cases h
    | some c =>
      rw [hi] at h
      simp only [A.get?]
      by_cases hij : i = j
      · subst hij
        rw [hi] at h1
        rw [List.getElem?_set_self (List.getElem?_eq_some_iff.mp hi).1]
        exact A.get_put_grow hg p q c h h1
      · rw [List.getElem?_set_ne hij]
        cases hj : ts0[j]? with
        | none => rw [hj] at h1; cases h1
        | some d => rw [hj] at h1; exact ⟨_, _, h1⟩

/-- the node at a place: slot j, path p -/
structure Place (ev : AEn) (j : Nat) (p : List Nat) (u : Sl A) (t : A) (a dx : Addr) (k : Kd) (ts : List A) : Prop where
  sl : ev[j]? = some u
  tr : u.tr = some t
  nd : t.get? p = some (.nd a dx k ts)
def addOf (t : A) : Option Addr := match t with
  | .nd a _ _ _ => some a
  | _ => none
section
variable {Z : Px} {Fz Fz' H H' : Hp} {σ : L2.St} {ev : AEn} {F F' : Fr}
/-- what stands at a place -/
theorem SA.node (S : SA Z Fz H σ ev F) {j : Nat} {p : List Nat} {u : Sl A} {t : A} {a dx : Addr} {k : Kd} {ts : List A} (P : Place ev j p u t a dx k ts) :
    ∃ vs, NodeAt Z Fz H a dx vs k ∧ Owns Z Fz H ts vs := by
  obtain ⟨v, h1, h2⟩ := S.sl j u t P.sl P.tr
  obtain ⟨sv, l, r, ⟨e, vs, n, os⟩, _⟩ := Own.at_ p t v _ h2 P.nd
  exact ⟨vs, n, os⟩
theorem shuffle (L l : List Addr) (a : Addr) (M r R G : List Addr) : (L ++ (l ++ (a :: M) ++ r) ++ R ++ G).Perm ((L ++ (l ++ (a :: (r ++ R)))) ++ (M ++ G)) := by
  have e : (M ++ (r ++ R) ++ G).Perm ((r ++ R) ++ M ++ G) := List.Perm.append_right G List.perm_append_comm
  simp only [List.append_assoc, List.cons_append] at e ⊢
  exact List.Perm.append_left L (List.Perm.append_left l (List.Perm.cons a e))
/-- the node at a place is changed: n: links that are longer are forgotten -/
theorem SA.mut (S : SA Z Fz H σ ev F) {j : Nat} {p : List Nat} {u : Sl A} {t : A} {a dx : Addr} {k : Kd} {ts : List A} (P : Place ev j p u t a dx k ts) {k' : Kd} {ts' : List A} {vs' : List V} {n : Nat}
    (ef : Ex Fz Fz') (ex : Ex Fz' H') (keep : ∀ b o, b ≠ a → H b = some o → H' b = some o)
    (nn : NodeAt Z Fz' H' a dx vs' k') (os : Owns Z Fz' H' ts' vs') (fr : F'.ok Fz' H')
    (pr : (A.adss ts' ++ F'.ads).Nodup) (mem : ∀ b ∈ A.adss ts' ++ F'.ads, b ∈ A.adss ts ++ F.ads) (fz : ∀ b ∈ AEn.ads ev ++ F.ads, Fz' b = none)
    (links : (∀ (i : Nat) (c : A), ts[i]? = some c → ts'[i]? = some c) ∨ n ≤ p.length + 1) (hpin : F'.pin = F.pin) :
    SA Z Fz' H' σ (killL j n (ev.set j (u.with (t.put p (.nd a dx k' ts'))))) F' := by
  obtain ⟨v, h1, h2⟩ := S.sl j u t P.sl P.tr
  obtain ⟨sv, l, r, hsv, hads, hp, q⟩ := Own.at_ p t v _ h2 P.nd
  obtain ⟨qa, qo⟩ := q (.nd a dx k' ts')
  obtain ⟨L, R, eA, eS⟩ := ads_at P.sl
  have hsvr : sv = .ref a := hsv.1
  have eu : u.ads = l ++ (a :: A.adss ts) ++ r := by rw [Sl.ads_tr P.tr, hads]; rfl
  have hu' : (u.with (t.put p (.nd a dx k' ts'))).tr = some (t.put p (.nd a dx k' ts')) := Sl.with_tr P.tr
  have eu' : (u.with (t.put p (.nd a dx k' ts'))).ads = l ++ (a :: A.adss ts') ++ r := by rw [Sl.ads_tr hu', qa]; rfl
  have hj : j < ev.length := (List.getElem?_eq_some_iff.mp P.sl).1
  have eold : AEn.ads ev ++ F.ads = L ++ (l ++ (a :: A.adss ts) ++ r) ++ R ++ F.ads := by rw [eA, eu]
  have nd1 : ((L ++ (l ++ (a :: (r ++ R)))) ++ (A.adss ts ++ F.ads)).Nodup := by
    have h := S.nd
    rw [eold] at h
    exact (shuffle L l a (A.adss ts) r R F.ads).nodup_iff.mp h
  obtain ⟨ndX, _, dis⟩ := List.nodup_append.mp nd1
  have inA : ∀ b, b ∈ L ++ (l ++ (a :: (r ++ R))) → b ∈ AEn.ads ev := fun b hb => by
    rw [eA, eu]
    simp only [List.mem_append, List.mem_cons] at hb ⊢
    rcases hb with h | h | h | h | h
    · exact .inl (.inl h)
    · exact .inl (.inr (.inl (.inl h)))
    · exact .inl (.inr (.inl (.inr (.inl h))))
    · exact .inl (.inr (.inr h))
    · exact .inr h
  have ne_a : ∀ b, b ∈ l ∨ b ∈ r → b ≠ a := fun b hb e => by
    subst e
    have h2' := (List.nodup_append.mp ndX).2.1
    obtain ⟨_, h3, h4⟩ := List.nodup_append.mp h2'
    rcases hb with h | h
    · exact h4 b h b (List.mem_cons_self ..) rfl
    · exact (List.nodup_cons.mp h3).1 (List.mem_append_left _ h)
  have ne_o : ∀ (i : Nat) (u1 : Sl A) (t1 : A), i ≠ j → ev[i]? = some u1 → u1.tr = some t1 → ∀ b ∈ t1.ads, b ≠ a := fun i u1 t1 hij g1 g2 b hb e => by
    subst e
    have hnd := (List.nodup_append.mp S.nd).1
    -- a stands in slot i and in slot j
    have : ∀ (ev : AEn), (AEn.ads ev).Nodup → ∀ (i j : Nat) (u1 u2 : Sl A), i ≠ j → ev[i]? = some u1 → ev[j]? = some u2 → b ∈ u1.ads → b ∉ u2.ads := by
      intro ev
      induction ev with
      | nil => intro _ i j u1 u2 _ g; cases g
      | cons s r ih =>
        intro hn i j u1 u2 hij g1 g2 m1 m2
        have hn' : (s.ads ++ AEn.ads r).Nodup := hn
        obtain ⟨_, n2, n3⟩ := List.nodup_append.mp hn'
        have inr : ∀ (k : Nat) (u : Sl A), r[k]? = some u → b ∈ u.ads → b ∈ AEn.ads r := fun k u g m => List.mem_flatMap.mpr ⟨u, List.mem_of_getElem? g, m⟩
        cases i with
        | zero =>
          cases j with
          | zero => exact hij rfl
          | succ j => cases g1; exact n3 b m1 b (inr j u2 (by simpa using g2) m2) rfl
        | succ i =>
          cases j with
          | zero => cases g2; exact n3 b m2 b (inr i u1 (by simpa using g1) m1) rfl
          | succ j => exact ih n2 i j u1 u2 (fun e => hij (by rw [e])) (by simpa using g1) (by simpa using g2) m1 m2
    refine this ev hnd i j u1 u hij g1 P.sl (by rw [Sl.ads_tr g2]; exact hb) ?_
    rw [eu]
    exact List.mem_append_left _ (List.mem_append_right _ (List.mem_cons_self ..))
  have hget : ∀ (i : Nat) (s : Sl A), (killL j n (ev.set j (u.with (t.put p (.nd a dx k' ts')))))[i]? = some s → (i = j ∧ s = u.with (t.put p (.nd a dx k' ts'))) ∨ (i ≠ j ∧ ∃ s0, ev[i]? = some s0 ∧ s0.kill j n = s) := fun i s e => by
    obtain ⟨u', e3, e4⟩ := killL_get e
    by_cases hij : j = i
    · subst hij
      rw [List.getElem?_set_self hj] at e3
      cases e3
      refine .inl ⟨rfl, ?_⟩
      rw [← e4]
      have ht := P.tr
      cases u <;> first | rfl | cases ht
    · rw [List.getElem?_set_ne hij] at e3
      exact .inr ⟨Ne.symm hij, u', e3, e4⟩
  refine ⟨ex, fun i u' t' e1 e2 => ?_, fun i k1 p1 e => ?_, fr, ?_, ?_, ?_, fun i u' e1 e2 => ?_⟩
  · rcases hget i u' e1 with ⟨rfl, rfl⟩ | ⟨hij, s0, g1, rfl⟩
    · rw [hu'] at e2
      cases e2
      refine ⟨v, h1, qo Fz' H' ef (fun b hb o => keep b o (ne_a b hb)) ?_⟩
      exact ⟨hsvr, vs', nn, os⟩
    · rw [Sl.kill_tr] at e2
      obtain ⟨w, g3, g4⟩ := S.sl i s0 t' g1 e2
      exact ⟨w, g3, Own.mono ef t' w (fun b hb o => keep b o (ne_o i s0 t' hij g1 e2 b hb)) g4⟩
  · rcases hget i _ e with ⟨rfl, e1⟩ | ⟨hij, s0, g1, g2⟩
    · rw [← e1] at hu'; cases hu'
    · obtain ⟨e5, e6⟩ := Sl.kill_lnk g2
      subst e5
      obtain ⟨u1, t1, a1, dx1, kd1, ts1, f1, f2, f3, f4⟩ := S.lk i k1 p1 g1
      by_cases hk : k1 = j
      · subst hk
        rw [P.sl] at f1
        cases f1
        rw [P.tr] at f2
        cases f2
        have hnew : ∃ k2 ts2, (t.put p (.nd a dx k' ts')).get? p1 = some (.nd a1 dx1 k2 ts2) := by
          rcases links with hg | hn
          · exact A.get_put_grow hg p p1 t P.nd f3
          · exact A.get_put_short p p1 t P.nd (by
              have : ¬ n ≤ p1.length := fun z => e6 ⟨rfl, z⟩
              omega) f3
        obtain ⟨k2, ts2, hn⟩ := hnew
        refine ⟨(u.with (t.put p (.nd a dx k' ts'))).kill k1 n, _, a1, dx1, k2, ts2, ?_, by rw [Sl.kill_tr]; exact hu', hn, f4⟩
        unfold killL
        rw [List.getElem?_map, List.getElem?_set_self hj]
        rfl
      · refine ⟨u1.kill j n, t1, a1, dx1, kd1, ts1, ?_, by rw [Sl.kill_tr]; exact f2, f3, f4⟩
        unfold killL
        rw [List.getElem?_map, List.getElem?_set_ne (Ne.symm hk), f1]
        rfl
  · rw [killL_ads, eS, eu']
    refine (shuffle L l a (A.adss ts') r R F'.ads).nodup_iff.mpr ?_
    exact List.nodup_append.mpr ⟨ndX, pr, fun b hb c hc e => dis b hb c (mem c hc) e⟩
  · intro b hb
    rw [killL_ads, eS, eu'] at hb
    have hb' : b ∈ (L ++ (l ++ (a :: (r ++ R)))) ++ (A.adss ts' ++ F'.ads) := (shuffle L l a (A.adss ts') r R F'.ads).mem_iff.mp hb
    refine fz b ?_
    rcases List.mem_append.mp hb' with h | h
    · exact List.mem_append_left _ (inA b h)
    · rcases List.mem_append.mp (mem b h) with h' | h'
      · refine List.mem_append_left _ ?_
        rw [eA, eu]
        exact List.mem_append_left _ (List.mem_append_right _ (List.mem_append_left _ (List.mem_append_right _ (List.mem_cons_of_mem _ h'))))
      · exact List.mem_append_right _ h'
  · rw [killL_length, List.length_set]; exact S.len
  · rw [hpin]
    rcases hget i u' e1 with ⟨rfl, rfl⟩ | ⟨hij, s0, g1, rfl⟩
    · rw [Sl.with_io] at e2
      exact S.pn _ u P.sl e2
    · rw [Sl.kill_io] at e2
      exact S.pn i s0 g1 e2
end
end DL

set_option maxRecDepth 100000
namespace DL
open PySem PySem.Spec PyProof.Rows L2
open Evl (Ex Ex.refl Ex.trans Ex.new Ex.mut ex_l ex_t ex_rd fresh_back)

/-! ### what changes no more -/
mutual
def T.data? : T → Option PyData
  | .dat x => some x
  | .scr _ => none
  | .nd .lst ts => match T.datas? ts with
    | some xs => some (.list xs)
    | none => none
  | .nd (.dic _ _) _ => none
  | .nd (.ins _ _) _ => none
def T.datas? : List T → Option (List PyData)
  | [] => some []
  | t :: ts => match t.data? with
    | some x => match T.datas? ts with
      | some xs => some (x :: xs)
      | none => none
    | none => none
end
theorem T.datas_dat : ∀ xs : List PyData, T.datas? (xs.map T.dat) = some xs
  | [] => rfl
  | x :: xs => by
    show (match T.datas? (xs.map T.dat) with | some xs => some (x :: xs) | none => none) = _
    rw [T.datas_dat xs]
theorem datas_cons {t : T} {ts : List T} {xs : List PyData} (h : T.datas? (t :: ts) = some xs) : ∃ y ys, xs = y :: ys ∧ t.data? = some y ∧ T.datas? ts = some ys := by
  have h' : (match t.data? with | some x => (match T.datas? ts with | some xs => some (x :: xs) | none => none) | none => none) = some xs := h
  cases e1 : t.data? with
  | none => rw [e1] at h'; cases h'
  | some y =>
    rw [e1] at h'
    cases e2 : T.datas? ts with
    | none => rw [e2] at h'; cases h'
    | some ys => rw [e2] at h'; exact ⟨y, ys, (Option.some.inj h').symm, rfl, rfl⟩
theorem data_lst {ts : List T} {x : PyData} (h : (T.nd .lst ts).data? = some x) : ∃ xs, x = .list xs ∧ T.datas? ts = some xs := by
  have h' : (match T.datas? ts with | some xs => some (PyData.list xs) | none => none) = some x := h
  cases e : T.datas? ts with
  | none => rw [e] at h'; cases h'
  | some xs => rw [e] at h'; exact ⟨xs, (Option.some.inj h').symm, rfl⟩
mutual
theorem own_data {Z : Px} {Fz H F2 : Hp} (ef : Ex Fz F2) : ∀ (t : A) (v : V) (x : PyData), (∀ a ∈ t.ads, ∀ o, H a = some o → F2 a = some o) → Own Z Fz H t v → t.er.data? = some x → Dv Z.K F2 v x
  | .dat y, v, x, _, h, e => by
    have : y = x := Option.some.inj e
    subst this
    exact dp_mono ef y v h
  | .scr ns, v, x, _, _, e => by cases e
  | .nd a dx .lst ts, v, x, hk, ⟨e1, vs, n, os⟩, e => by
    obtain ⟨xs, rfl, e2⟩ := data_lst (show (T.nd .lst (A.ers ts)).data? = some x from e)
    subst e1
    exact .lst (hk a (List.mem_cons_self ..) _ n) (owns_datas ef ts vs xs (fun b hb => hk b (List.mem_cons_of_mem _ hb)) os e2)
  | .nd a dx (.dic d ks) ts, v, x, _, _, e => by cases e
  | .nd a dx (.ins C fs) ts, v, x, _, _, e => by cases e
theorem owns_datas {Z : Px} {Fz H F2 : Hp} (ef : Ex Fz F2) : ∀ (ts : List A) (vs : List V) (xs : List PyData), (∀ a ∈ A.adss ts, ∀ o, H a = some o → F2 a = some o) → Owns Z Fz H ts vs → T.datas? (A.ers ts) = some xs → Dvs Z.K F2 vs xs
  | [], vs, xs, _, h, e => by
    have h1 : vs = [] := h
    have h2 : xs = [] := (Option.some.inj e).symm
    rw [h1, h2]
    exact .nil
  | t :: ts, vs, xs, hk, ⟨v, vr, e1, o, os⟩, e => by
    obtain ⟨y, ys, rfl, e2, e3⟩ := datas_cons (show T.datas? (t.er :: A.ers ts) = some xs from e)
    subst e1
    exact .cons (own_data ef t v y (fun b hb => hk b (List.mem_append_left _ hb)) o e2) (owns_datas ef ts vr ys (fun b hb => hk b (List.mem_append_right _ hb)) os e3)
end
/-- what never changes, and the objects of l as they stand -/
noncomputable def frzd (Fz H : Hp) (l : List Addr) : Hp := fun a => open Classical in if a ∈ l then H a else Fz a
section
variable {Z : Px} {Fz Fz' H H' : Hp} {σ : L2.St} {ev : AEn} {F G : Fr}
theorem frzd_in {l : List Addr} {a : Addr} (h : a ∈ l) : frzd Fz H l a = H a := by unfold frzd; rw [if_pos h]
theorem frzd_out {l : List Addr} {a : Addr} (h : a ∉ l) : frzd Fz H l a = Fz a := by unfold frzd; rw [if_neg h]
theorem frzd_ex {l : List Addr} (h : ∀ a ∈ l, Fz a = none) : Ex Fz (frzd Fz H l) := fun a o e => by
  rw [frzd_out (fun m => by rw [h a m] at e; cases e)]
  exact e
theorem frzd_le {l : List Addr} (h : Ex Fz H) : Ex (frzd Fz H l) H := fun a o e => by
  by_cases m : a ∈ l
  · rw [frzd_in m] at e; exact e
  · rw [frzd_out m] at e; exact h a o e
/-- what was just made changes no more -/
theorem SA.frz {t : A} {v : V} {x : PyData} (S : SA Z Fz H σ ev (F.add (.of Z t v))) (e : t.er.data? = some x) : ∃ Fz', Ex Fz Fz' ∧ SA Z Fz' H σ ev F ∧ Dv Z.K Fz' v x := by
  have hn : ∀ a ∈ t.ads, Fz a = none := fun a ha => S.fz a (List.mem_append_right _ (List.mem_append_right _ ha))
  have nd : (AEn.ads ev ++ F.ads ++ t.ads).Nodup := by
    have h : (AEn.ads ev ++ (F.ads ++ t.ads)).Nodup := S.nd
    rwa [← List.append_assoc] at h
  obtain ⟨_, _, dis⟩ := List.nodup_append.mp nd
  have ef : Ex Fz (frzd Fz H t.ads) := frzd_ex hn
  refine ⟨frzd Fz H t.ads, ef, ?_, own_data ef t v x (fun a ha o h => by rw [frzd_in ha]; exact h) S.fr.2 e⟩
  exact S.pop.keep ef (frzd_le S.ex) (fun a _ o h => h) fun a ha => by
    rw [frzd_out (fun m => dis a ha a m rfl)]
    exact S.pop.fz a ha
/-- a slot's tree changes no more -/
theorem SA.frzSlot {i : Nat} {u : Sl A} {t : A} {x : PyData} (S : SA Z Fz H σ ev F) (h1 : ev[i]? = some u) (h2 : u.tr = some t) (e : t.er.data? = some x) :
    ∃ Fz', Ex Fz Fz' ∧ SA Z Fz' H σ (killL i 0 (ev.set i (u.with (.dat x)))) F := by
  obtain ⟨v, h3, h4⟩ := S.sl i u t h1 h2
  obtain ⟨L, R, eA, eS⟩ := ads_at h1
  have hi : i < ev.length := (List.getElem?_eq_some_iff.mp h1).1
  have hu : u.ads = t.ads := Sl.ads_tr h2
  have hw : (u.with (.dat x)).tr = some (.dat x) := Sl.with_tr h2
  have hwa : (u.with (A.dat x)).ads = [] := by rw [Sl.ads_tr hw]; rfl
  have hn : ∀ a ∈ t.ads, Fz a = none := fun a ha => S.fz a (List.mem_append_left _ (by rw [eA, hu]; exact List.mem_append_left _ (List.mem_append_right _ ha)))
  have ef : Ex Fz (frzd Fz H t.ads) := frzd_ex hn
  have nd1 : (L ++ t.ads ++ R ++ F.ads).Nodup := by
    have h := S.nd
    rw [eA, hu] at h
    exact h
  have out : ∀ a, a ∈ L ∨ a ∈ R ∨ a ∈ F.ads → a ∉ t.ads := fun a ha m => by
    have p : (L ++ t.ads ++ R ++ F.ads).Perm ((L ++ (R ++ F.ads)) ++ t.ads) := by
      simp only [List.append_assoc]
      refine List.Perm.append_left L ?_
      exact (List.perm_append_comm).trans (by rw [List.append_assoc])
    obtain ⟨_, _, dis⟩ := List.nodup_append.mp (p.nodup_iff.mp nd1)
    refine dis a ?_ a m rfl
    simp only [List.mem_append]
    exact ha
  have mem_old : ∀ (j : Nat) (u' : Sl A) (t' : A), j ≠ i → ev[j]? = some u' → u'.tr = some t' → ∀ a ∈ t'.ads, a ∈ L ∨ a ∈ R := fun j u' t' hj g1 g2 a ha => by
    have g : (ev.set i .un)[j]? = some u' := by rw [List.getElem?_set_ne (Ne.symm hj)]; exact g1
    have m := ads_mem g g2 ha
    rw [eS .un] at m
    simp only [List.mem_append] at m
    rcases m with (m | m) | m
    · exact .inl m
    · cases m
    · exact .inr m
  refine ⟨frzd Fz H t.ads, ef, frzd_le S.ex, fun j u' t' e1 e2 => ?_, fun j k p e1 => ?_, ?_, ?_, ?_, ?_, fun j u' e1 e2 => ?_⟩
  · obtain ⟨u0, e3, e4⟩ := killL_get e1
    subst e4
    rw [Sl.kill_tr] at e2
    by_cases hj : i = j
    · subst hj
      rw [List.getElem?_set_self hi] at e3
      cases e3
      rw [hw] at e2
      cases e2
      exact ⟨v, h3, own_data ef t v x (fun a ha o h => by rw [frzd_in ha]; exact h) h4 e⟩
    · rw [List.getElem?_set_ne hj] at e3
      obtain ⟨w, g1, g2⟩ := S.sl j u0 t' e3 e2
      exact ⟨w, g1, Own.mono ef t' w (fun a _ o h => h) g2⟩
  · obtain ⟨u0, e3, e4⟩ := killL_get e1
    obtain ⟨e5, e6⟩ := Sl.kill_lnk e4
    subst e5
    have hk : k ≠ i := fun z => e6 ⟨z, Nat.zero_le _⟩
    by_cases hj : i = j
    · subst hj
      rw [List.getElem?_set_self hi] at e3
      have e7 := Option.some.inj e3
      rw [e7] at hw; cases hw
    · rw [List.getElem?_set_ne hj] at e3
      obtain ⟨u1, t1, a, dx, kd, ts, g1, g2, g3, g4⟩ := S.lk j k p e3
      refine ⟨u1.kill i 0, t1, a, dx, kd, ts, ?_, by rw [Sl.kill_tr]; exact g2, g3, g4⟩
      unfold killL
      rw [List.getElem?_map, List.getElem?_set_ne (Ne.symm hk), g1]
      rfl
  · exact F.mono ef (fun a _ o h => h) S.fr
  · rw [killL_ads, eS, hwa]
    refine nd1.sublist ?_
    exact List.Sublist.append (List.Sublist.append (List.Sublist.append (List.Sublist.refl _) (List.nil_sublist _)) (List.Sublist.refl _)) (List.Sublist.refl _)
  · intro a ha
    rw [killL_ads, eS, hwa] at ha
    simp only [List.append_nil, List.mem_append] at ha
    have o : a ∉ t.ads := out a (by rcases ha with (h | h) | h; exact .inl h; exact .inr (.inl h); exact .inr (.inr h))
    rw [frzd_out o]
    refine S.fz a ?_
    rw [eA]
    simp only [List.mem_append]
    rcases ha with (h | h) | h
    · exact .inl (.inl (.inl h))
    · exact .inl (.inr h)
    · exact .inr h
  · rw [killL_length, List.length_set]; exact S.len
  · obtain ⟨u0, e3, e4⟩ := killL_get e1
    subst e4
    rw [Sl.kill_io] at e2
    by_cases hj : i = j
    · subst hj
      rw [List.getElem?_set_self hi] at e3
      cases e3
      rw [Sl.with_io] at e2
      exact S.pn _ u h1 e2
    · rw [List.getElem?_set_ne hj] at e3
      exact S.pn j u0 e3 e2
end

/-! ### judgements -/
abbrev WU := En → (T → Prop) → Prop
abbrev WE := En → (T → En → Prop) → Prop
abbrev WP := En → (Nat → List Nat → Prop) → Prop
abbrev WT := En → (Bool → En → Prop) → Prop
abbrev WA := En → (List T → En → Prop) → Prop
structure EndsD where
  nx : En → Prop
  rt : T → En → Prop
  bk : En → Prop := fun _ => False
  ct : En → Prop := fun _ => False
abbrev WS := EndsD → En → Prop
/-- the slots laid out one by one, then what follows (a plain call of what follows; it keeps terms small) -/
def frc : En → (En → Prop) → Prop
  | [], Q => Q []
  | s :: en, Q => frc en fun e => Q (s :: e)
theorem frc_eq : ∀ (en : En) (Q : En → Prop), frc en Q = Q en
  | [], _ => rfl
  | s :: en, Q => frc_eq en fun e => Q (s :: e)
/-- a reading that only looks -/
def EvU (Z : Px) (t : TE) (w : WU) : Prop := ∀ (σ : L2.St) (H : Hp) (Q : VK) (Fz : Hp) (ev : AEn) (F : Fr) (R : T → Prop), SA Z Fz H σ ev F → w (AEn.er ev) R →
  (∀ v H' Fz' ar, R ar.er → Ex Fz Fz' → Ex H H' → SA Z Fz' H' σ ev F → Own Z Fz' H' ar v → Q v H') → t σ H Q
/-- a reading that may change what the slots hold -/
def EvE (Z : Px) (t : TE) (w : WE) : Prop := ∀ (σ : L2.St) (H : Hp) (Q : VK) (Fz : Hp) (ev : AEn) (F : Fr) (R : T → En → Prop), SA Z Fz H σ ev F → w (AEn.er ev) R →
  (∀ v H' Fz' ar ev', R ar.er (AEn.er ev') → Ex Fz Fz' → SA Z Fz' H' σ ev' (F.add (.of Z ar v)) → Q v H') → t σ H Q
/-- a place -/
def EvP (Z : Px) (t : TE) (w : WP) : Prop := ∀ (σ : L2.St) (H : Hp) (Q : VK) (Fz : Hp) (ev : AEn) (F : Fr) (R : Nat → List Nat → Prop), SA Z Fz H σ ev F → w (AEn.er ev) R →
  (∀ H' Fz' j p u t a dx k ts, R j p → Ex Fz Fz' → Ex H H' → SA Z Fz' H' σ ev F → Place ev j p u t a dx k ts → Q (.ref a) H') → t σ H Q
def EvT (Z : Px) (t : TT) (w : WT) : Prop := ∀ (σ : L2.St) (H : Hp) (Q : Bool → Hp → Prop) (Fz : Hp) (ev : AEn) (F : Fr) (R : Bool → En → Prop), SA Z Fz H σ ev F → w (AEn.er ev) R →
  (∀ b H' Fz' ev', R b (AEn.er ev') → Ex Fz Fz' → SA Z Fz' H' σ ev' F → Q b H') → t σ H Q
/-- items of a display -/
def EvA (Z : Px) (t : TA) (w : WA) : Prop := ∀ (σ : L2.St) (H : Hp) (Q : List V → Hp → Prop) (Fz : Hp) (ev : AEn) (F : Fr) (R : List T → En → Prop), SA Z Fz H σ ev F → w (AEn.er ev) R →
  (∀ vs H' Fz' ars ev', R (A.ers ars) (AEn.er ev') → Ex Fz Fz' → SA Z Fz' H' σ ev' (F.add (.ofs Z ars vs)) → Q vs H') → t σ H Q
/-- what a statement's ends ask, as trees and as slots -/
structure Fits (Z : Px) (Fz : Hp) (F : Fr) (R : EndsD) (D : Ends) : Prop where
  nx : ∀ σ H Fz' ev, R.nx (AEn.er ev) → Ex Fz Fz' → SA Z Fz' H σ ev F → D.nx σ H
  rt : ∀ σ v H Fz' ar ev, R.rt ar.er (AEn.er ev) → Ex Fz Fz' → SA Z Fz' H σ ev (F.add (.of Z ar v)) → D.rt v H
  bk : ∀ σ H Fz' ev, R.bk (AEn.er ev) → Ex Fz Fz' → SA Z Fz' H σ ev F → D.bk σ H
  ct : ∀ σ H Fz' ev, R.ct (AEn.er ev) → Ex Fz Fz' → SA Z Fz' H σ ev F → D.ct σ H
def EvS (Z : Px) (t : TS) (w : WS) : Prop := ∀ (σ : L2.St) (H : Hp) (D : Ends) (Fz : Hp) (ev : AEn) (F : Fr) (R : EndsD), SA Z Fz H σ ev F → w R (AEn.er ev) → Fits Z Fz F R D → t D σ H
theorem Fits.mono {Z : Px} {Fz Fz' : Hp} {F : Fr} {R : EndsD} {D : Ends} (e : Ex Fz Fz') (h : Fits Z Fz F R D) : Fits Z Fz' F R D :=
  ⟨fun σ H F2 ev r e2 S => h.nx σ H F2 ev r (e.trans e2) S, fun σ v H F2 ar ev r e2 S => h.rt σ v H F2 ar ev r (e.trans e2) S,
   fun σ H F2 ev r e2 S => h.bk σ H F2 ev r (e.trans e2) S, fun σ H F2 ev r e2 S => h.ct σ H F2 ev r (e.trans e2) S⟩
structure DU (X : Cx) (e : Expr) (w : WU) : Prop where
  ex : ∃ t, PE X e t ∧ EvU X.px t w
structure DE (X : Cx) (e : Expr) (w : WE) : Prop where
  ex : ∃ t, PE X e t ∧ EvE X.px t w
structure DP (X : Cx) (e : Expr) (w : WP) : Prop where
  ex : ∃ t, PE X e t ∧ EvP X.px t w
structure DT (X : Cx) (e : Expr) (w : WT) : Prop where
  ex : ∃ t, PT X e t ∧ EvT X.px t w
structure DW (X : Cx) (e : Expr) (w : WT) : Prop where
  ex : ∃ t, PW X e t ∧ EvT X.px t w
structure DA (X : Cx) (es : List Expr) (w : WA) : Prop where
  ex : ∃ t, PA X es t ∧ EvA X.px t w
structure DS (X : Cx) (st : Stmt) (w : WS) : Prop where
  ex : ∃ t, PS X st t ∧ EvS X.px t w
structure DSs (X : Cx) (st : List Stmt) (w : WS) : Prop where
  ex : ∃ t, PSs X st t ∧ EvS X.px t w

/-! ### from one sort to another -/
section
variable {X : Cx} {e : Expr}
/-- data, looked at -/
def eU (w : WU) : WE := fun en Q => w en fun r => match r with
  | .dat x => Q (.dat x) en
  | _ => False
theorem de_u {w : WU} (h : DU X e w) : DE X e (eU w) := by
  obtain ⟨t, h1, h2⟩ := h
  refine ⟨t, h1, fun σ H Q Fz ev F R S hw k => ?_⟩
  refine h2 σ H Q Fz ev F _ S hw fun v H' Fz' ar r ef eh S' o => ?_
  cases ar with
  | dat x => exact k v H' Fz' (.dat x) ev r ef (S'.pushD o)
  | scr ns => exact r.elim
  | nd a dx kd ts => exact r.elim
/-- what was just made changes no more -/
def eF (w : WE) : WE := fun en Q => w en fun r en' => match r.data? with
  | some x => Q (.dat x) en'
  | none => False
theorem de_f {w : WE} (h : DE X e w) : DE X e (eF w) := by
  obtain ⟨t, h1, h2⟩ := h
  refine ⟨t, h1, fun σ H Q Fz ev F R S hw k => ?_⟩
  refine h2 σ H Q Fz ev F _ S hw fun v H' Fz' ar ev' r ef S' => ?_
  cases hx : ar.er.data? with
  | none => rw [hx] at r; exact r.elim
  | some x =>
    rw [hx] at r
    obtain ⟨F2, e2, S2, d⟩ := S'.frz hx
    exact k v H' F2 (.dat x) ev' r (ef.trans e2) (S2.pushD d)
end
end DL

set_option maxRecDepth 100000
namespace DL
open PySem PySem.Spec PyProof.Rows L2
open Evl (Ex Ex.refl Ex.trans Ex.new Ex.mut ex_l ex_t ex_rd fresh_back)

/-! ### frames alone -/
structure Held (Fz H : Hp) (F : Fr) : Prop where
  ex : Ex Fz H
  ok : F.ok Fz H
  nd : F.ads.Nodup
  fz : ∀ a ∈ F.ads, Fz a = none
section
variable {Z : Px} {Fz Fz' H H' : Hp} {σ : L2.St} {ev : AEn} {F G : Fr}
theorem Held.to (h : Held Fz H F) (ok : G.ok Fz H) (p : G.ads.Perm F.ads) : Held Fz H G :=
  ⟨h.ex, ok, p.nodup_iff.mpr h.nd, fun a ha => h.fz a (p.mem_iff.mp ha)⟩
/-- a frame's slots -/
structure SlotsOk (Z : Px) (σ : L2.St) (ev : AEn) (Fz H : Hp) : Prop where
  sl : ∀ (i : Nat) (u : Sl A) (t : A), ev[i]? = some u → u.tr = some t → ∃ v, σ[i]? = some (some v) ∧ Own Z Fz H t v
  lk : ∀ (i j : Nat) (p : List Nat), ev[i]? = some (.lnk j p) → ∃ u t a dx k ts, ev[j]? = some u ∧ u.tr = some t ∧ t.get? p = some (.nd a dx k ts) ∧ σ[i]? = some (some (.ref a))
  len : ev.length = σ.length
def Fr.env (Z : Px) (pin : Nat → Option V) (σ : L2.St) (ev : AEn) : Fr where
  pin := pin
  ads := AEn.ads ev
  ok := fun Fz H => SlotsOk Z σ ev Fz H ∧ ∀ (i : Nat) (u : Sl A), ev[i]? = some u → u.isIo = true → ∃ v, pin i = some v ∧ σ[i]? = some (some v)
  mono := fun e k h => ⟨⟨fun i u t e1 e2 => by
    obtain ⟨v, h1, h2⟩ := h.1.sl i u t e1 e2
    exact ⟨v, h1, Own.mono e t v (fun a ha => k a (ads_mem e1 e2 ha)) h2⟩, h.1.lk, h.1.len⟩, h.2⟩
  has := fun h a ha => by
    obtain ⟨i, u, t, e1, e2, m⟩ := mem_ads ha
    obtain ⟨v, _, o⟩ := h.1.sl i u t e1 e2
    exact Own.has t v o a m
theorem SA.held (S : SA Z Fz H σ ev F) : Held Fz H ((Fr.env Z F.pin σ ev).add F) := ⟨S.ex, ⟨⟨⟨S.sl, S.lk, S.len⟩, S.pn⟩, S.fr⟩, S.nd, S.fz⟩
theorem SA.of_held (h : Held Fz H ((Fr.env Z F.pin σ ev).add F)) : SA Z Fz H σ ev F := ⟨h.ex, h.ok.1.1.sl, h.ok.1.1.lk, h.ok.2, h.nd, h.fz, h.ok.1.1.len, h.ok.1.2⟩

/-- a slot's tree is taken out -/
theorem SA.take (S : SA Z Fz H σ ev F) {i : Nat} {u : Sl A} {t : A} (h1 : ev[i]? = some u) (h2 : u.tr = some t) :
    ∃ v, σ[i]? = some (some v) ∧ SA Z Fz H σ (killL i 0 (ev.set i (.out u.isIo))) (F.add (.of Z t v)) := by
  obtain ⟨v, h3, h4⟩ := S.sl i u t h1 h2
  obtain ⟨L, R, eA, eS⟩ := ads_at h1
  have hi : i < ev.length := (List.getElem?_eq_some_iff.mp h1).1
  have hu : u.ads = t.ads := Sl.ads_tr h2
  have hp : (L ++ ([] ++ R) ++ (F.ads ++ t.ads)).Perm (L ++ t.ads ++ R ++ F.ads) := by
    simp only [List.append_assoc, List.nil_append]
    refine List.Perm.append_left L ?_
    refine (List.Perm.append_left R (List.perm_append_comm)).trans ?_
    rw [← List.append_assoc]
    exact (List.Perm.append_right F.ads List.perm_append_comm).trans (by rw [List.append_assoc])
  refine ⟨v, h3, S.ex, fun j u' t' e1 e2 => ?_, fun j k p e => ?_, ⟨S.fr, h4⟩, ?_, ?_, ?_, fun j u' e1 e2 => ?_⟩
  · obtain ⟨u0, e3, e4⟩ := killL_get e1
    subst e4
    rw [Sl.kill_tr] at e2
    by_cases hj : i = j
    · subst hj
      rw [List.getElem?_set_self hi] at e3
      cases e3
      cases e2
    · rw [List.getElem?_set_ne hj] at e3
      exact S.sl j u0 t' e3 e2
  · obtain ⟨u0, e3, e4⟩ := killL_get e
    obtain ⟨e5, e6⟩ := Sl.kill_lnk e4
    subst e5
    have hk : k ≠ i := fun z => e6 ⟨z, Nat.zero_le _⟩
    by_cases hj : i = j
    · subst hj
      rw [List.getElem?_set_self hi] at e3
      cases e3
    · rw [List.getElem?_set_ne hj] at e3
      obtain ⟨u1, t1, a, dx, kd, ts, g1, g2, g3, g4⟩ := S.lk j k p e3
      refine ⟨u1.kill i 0, t1, a, dx, kd, ts, ?_, by rw [Sl.kill_tr]; exact g2, g3, g4⟩
      unfold killL
      rw [List.getElem?_map, List.getElem?_set_ne (Ne.symm hk), g1]
      rfl
  · rw [killL_ads, eS]
    have h := S.nd
    rw [eA, hu] at h
    refine (List.Perm.nodup_iff (?_ : (L ++ (Sl.out u.isIo : Sl A).ads ++ R ++ (F.ads ++ t.ads)).Perm _)).mpr h
    show (L ++ [] ++ R ++ (F.ads ++ t.ads)).Perm _
    rw [List.append_assoc L]
    exact hp
  · intro a ha
    rw [killL_ads, eS] at ha
    refine S.fz a ?_
    rw [eA, hu]
    refine hp.mem_iff.mp ?_
    have ha' : a ∈ L ++ [] ++ R ++ (F.ads ++ t.ads) := ha
    rw [List.append_assoc L] at ha'
    exact ha'
  · rw [killL_length, List.length_set]; exact S.len
  · obtain ⟨u0, e3, e4⟩ := killL_get e1
    subst e4
    rw [Sl.kill_io] at e2
    by_cases hj : i = j
    · subst hj
      rw [List.getElem?_set_self hi] at e3
      cases e3
      exact S.pn _ u h1 e2
    · rw [List.getElem?_set_ne hj] at e3
      exact S.pn j u0 e3 e2
/-- .. and given back -/
def Sl.back {α : Type} (b : Bool) (t : α) : Sl α := match b with
  | true => .io t
  | false => .own t
theorem Sl.back_tr {α : Type} (b : Bool) (t : α) : (Sl.back b t).tr = some t := by cases b <;> rfl
theorem Sl.back_io {α : Type} (b : Bool) (t : α) : (Sl.back b t).isIo = b := by cases b <;> rfl
theorem Sl.back_map {α β : Type} (f : α → β) (b : Bool) (t : α) : (Sl.back b t).map f = Sl.back b (f t) := by cases b <;> rfl
theorem SA.give {t : A} {v : V} (S : SA Z Fz H σ ev (F.add (.of Z t v))) {i : Nat} {b : Bool} (h1 : ev[i]? = some (.out b)) (hv : σ[i]? = some (some v)) :
    SA Z Fz H σ (killL i 0 (ev.set i (.back b t))) F := by
  obtain ⟨L, R, eA, eS⟩ := ads_at h1
  have hi : i < ev.length := (List.getElem?_eq_some_iff.mp h1).1
  have hads : (Sl.back b t).ads = t.ads := Sl.ads_tr (Sl.back_tr b t)
  have hp : (L ++ t.ads ++ R ++ F.ads).Perm (L ++ [] ++ R ++ (F.ads ++ t.ads)) := by
    simp only [List.append_assoc, List.nil_append]
    refine List.Perm.append_left L ?_
    rw [← List.append_assoc]
    refine (List.Perm.append_right F.ads List.perm_append_comm).trans ?_
    rw [List.append_assoc]
    exact List.Perm.append_left R List.perm_append_comm
  refine ⟨S.ex, fun j u' t' e1 e2 => ?_, fun j k p e => ?_, S.fr.1, ?_, ?_, ?_, fun j u' e1 e2 => ?_⟩
  · obtain ⟨u0, e3, e4⟩ := killL_get e1
    subst e4
    rw [Sl.kill_tr] at e2
    by_cases hj : i = j
    · subst hj
      rw [List.getElem?_set_self hi] at e3
      cases e3
      rw [Sl.back_tr] at e2
      cases e2
      exact ⟨v, hv, S.fr.2⟩
    · rw [List.getElem?_set_ne hj] at e3
      exact S.sl j u0 t' e3 e2
  · obtain ⟨u0, e3, e4⟩ := killL_get e
    obtain ⟨e5, e6⟩ := Sl.kill_lnk e4
    subst e5
    have hk : k ≠ i := fun z => e6 ⟨z, Nat.zero_le _⟩
    by_cases hj : i = j
    · subst hj
      rw [List.getElem?_set_self hi] at e3
      have := Sl.back_tr b t
      rw [Option.some.inj e3] at this
      cases this
    · rw [List.getElem?_set_ne hj] at e3
      obtain ⟨u1, t1, a, dx, kd, ts, g1, g2, g3, g4⟩ := S.lk j k p e3
      refine ⟨u1.kill i 0, t1, a, dx, kd, ts, ?_, by rw [Sl.kill_tr]; exact g2, g3, g4⟩
      unfold killL
      rw [List.getElem?_map, List.getElem?_set_ne (Ne.symm hk), g1]
      rfl
  · rw [killL_ads, eS, hads]
    have h := S.nd
    rw [eA] at h
    exact hp.nodup_iff.mpr h
  · intro a ha
    rw [killL_ads, eS, hads] at ha
    refine S.fz a ?_
    rw [eA]
    exact hp.mem_iff.mp ha
  · rw [killL_length, List.length_set]; exact S.len
  · obtain ⟨u0, e3, e4⟩ := killL_get e1
    subst e4
    rw [Sl.kill_io] at e2
    by_cases hj : i = j
    · subst hj
      rw [List.getElem?_set_self hi] at e3
      cases e3
      rw [Sl.back_io] at e2
      exact S.pn _ _ h1 e2
    · rw [List.getElem?_set_ne hj] at e3
      exact S.pn j u0 e3 e2
end

/-! ### arguments, calls -/
/-- the slots whose trees were handed in get them back: for each argument the slot whose name it was -/
def giveB : List (Option Nat) → List T → En → En
  | none :: bs, _ :: ts, en => giveB bs ts en
  | some i :: bs, t :: ts, en => match en[i]? with
    | some (.out b) => giveB bs ts (killL i 0 (en.set i (.back b t)))
    | _ => giveB bs ts en
  | _, _, en => en
abbrev WC := En → (List T → En → Prop) → Prop
def BackOk (σ : L2.St) : List (Option Nat) → List V → Prop
  | none :: bs, _ :: vs => BackOk σ bs vs
  | some i :: bs, v :: vs => σ[i]? = some (some v) ∧ BackOk σ bs vs
  | _, _ => True
def EvC (Z : Px) (back : List (Option Nat)) (t : TA) (w : WC) : Prop := ∀ (σ : L2.St) (H : Hp) (Q : List V → Hp → Prop) (Fz : Hp) (ev : AEn) (F : Fr) (R : List T → En → Prop), SA Z Fz H σ ev F → w (AEn.er ev) R →
  (∀ vs H' Fz' ars ev', R (A.ers ars) (AEn.er ev') → Ex Fz Fz' → SA Z Fz' H' σ ev' (F.add (.ofs Z ars vs)) → BackOk σ back vs → Q vs H') → t σ H Q
structure DC (X : Cx) (back : List (Option Nat)) (es : List Expr) (w : WC) : Prop where
  ex : ∃ t, PA X es t ∧ EvC X.px back t w
/-- what a def of trees asks: its arguments' trees, what follows for the answer and the arguments' trees behind it -/
abbrev SpT := List T → (T → List T → Prop) → Prop
def spT (Z : Px) (S : SpT) : Sp := fun vs H Q _ => ∃ (Fz : Hp) (ats : List A) (F : Fr) (R : T → List T → Prop), Held Fz H ((Fr.ofs Z ats vs).add F) ∧ S (A.ers ats) R ∧
  ∀ v H' Fz' ar ats', R ar.er (A.ers ats') → Ex Fz Fz' → Held Fz' H' ((Fr.ofs Z ats' vs).add (F.add (.of Z ar v))) → Q v H'
theorem A.ers_get (ts : List A) (i : Nat) : (A.ers ts)[i]? = (ts[i]?).map A.er := by rw [A.ers_eq, List.getElem?_map]
section
variable {Z : Px} {Fz Fz' H H' : Hp} {σ : L2.St} {F G : Fr}
theorem SA.held_to {ev : AEn} {G : Fr} (S : SA Z Fz H σ ev F) (ok : G.ok Fz H) (p : G.ads.Perm F.ads) (hp : G.pin = F.pin) : SA Z Fz H σ ev G := by
  refine SA.of_held ?_
  rw [hp]
  exact S.held.to ⟨S.held.ok.1, ok⟩ (List.Perm.append_left _ p)
/-- the arguments' trees are given back one by one -/
theorem give_all : ∀ (back : List (Option Nat)) (ev : AEn) (ars : List A) (vs : List V), SA Z Fz H σ ev (F.add (.ofs Z ars vs)) → BackOk σ back vs →
    ∃ ev', AEn.er ev' = giveB back (A.ers ars) (AEn.er ev) ∧ SA Z Fz H σ ev' F
  | [], ev, ars, vs, S, _ => ⟨ev, by cases ars <;> rfl, S.pop⟩
  | b :: bs, ev, [], vs, S, _ => ⟨ev, by cases b <;> rfl, S.pop⟩
  | b :: bs, ev, a :: as, vs, S, hb => by
    obtain ⟨v, vr, rfl, oa, os⟩ := (show Owns Z Fz H (a :: as) vs from S.fr.2)
    have S2 : SA Z Fz H σ ev ((F.add (.ofs Z as vr)).add (.of Z a v)) := S.held_to ⟨⟨S.fr.1, os⟩, oa⟩ (by
      show (F.ads ++ A.adss as ++ a.ads).Perm (F.ads ++ (a.ads ++ A.adss as))
      rw [List.append_assoc]
      exact List.Perm.append_left _ List.perm_append_comm) rfl
    cases b with
    | none =>
      obtain ⟨ev', e, S'⟩ := give_all bs ev as vr S2.pop hb
      exact ⟨ev', e, S'⟩
    | some i =>
      obtain ⟨hv, hb'⟩ := (show σ[i]? = some (some v) ∧ BackOk σ bs vr from hb)
      have same : giveB (some i :: bs) (A.ers (a :: as)) (AEn.er ev) = giveB bs (A.ers as) (AEn.er ev) → ∃ ev', AEn.er ev' = giveB (some i :: bs) (A.ers (a :: as)) (AEn.er ev) ∧ SA Z Fz H σ ev' F := fun e => by
        rw [e]
        exact give_all bs ev as vr S2.pop hb'
      cases hs : ev[i]? with
      | none => exact same (by simp only [giveB, A.ers]; rw [AEn.er_get, hs]; rfl)
      | some s =>
        cases s with
        | un => exact same (by simp only [giveB, A.ers]; rw [AEn.er_get, hs]; rfl)
        | own t => exact same (by simp only [giveB, A.ers]; rw [AEn.er_get, hs]; rfl)
        | io t => exact same (by simp only [giveB, A.ers]; rw [AEn.er_get, hs]; rfl)
        | lnk j q => exact same (by simp only [giveB, A.ers]; rw [AEn.er_get, hs]; rfl)
        | out b =>
          obtain ⟨ev', e, S'⟩ := give_all bs _ as vr (S2.give hs hv) hb'
          refine ⟨ev', ?_, S'⟩
          rw [e, killL_er, er_set, Sl.back_map]
          simp only [giveB, A.ers]
          rw [AEn.er_get, hs]
          rfl
end
section
variable {X : Cx} {es : List Expr} {e : Expr} {back : List (Option Nat)}
def cNil : WC := fun en Q => Q [] en
theorem dc_nil : DC X [] [] cNil := ⟨tNil, pa_nil, fun σ H Q Fz ev F R S h k => k [] H Fz [] ev h (Ex.refl _) (S.held_to ⟨S.fr, rfl⟩ (by show (F.ads ++ []).Perm F.ads; rw [List.append_nil]) rfl) True.intro⟩
def cCons (w : WE) (wr : WC) : WC := fun en Q => w en fun r en1 => wr en1 fun rs en2 => Q (r :: rs) en2
/-- an argument that is made -/
theorem dc_val {w : WE} {wr : WC} (h : DE X e w) (hr : DC X back es wr) (hs : starEach (e :: es) X.env = (false, eval e X.env) :: starEach es X.env := by rfl) : DC X (none :: back) (e :: es) (cCons w wr) := by
  obtain ⟨t, h1, h2⟩ := h
  obtain ⟨tr, h3, h4⟩ := hr
  refine ⟨tCons t tr, pa_cons h1 h3 hs, fun σ H Q Fz ev F R S hw k => ?_⟩
  refine h2 σ H _ Fz ev F _ S hw fun v H1 Fz1 a ev1 r1 e1 S1 => ?_
  refine h4 σ H1 _ Fz1 ev1 _ _ S1 r1 fun vs H2 Fz2 as ev2 r2 e2 S2 hb => ?_
  exact k (v :: vs) H2 Fz2 (a :: as) ev2 r2 (e1.trans e2) (S2.held_to ⟨S2.fr.1.1, ⟨v, vs, rfl, S2.fr.1.2, S2.fr.2⟩⟩ (by
    show (F.ads ++ (a.ads ++ A.adss as)).Perm (F.ads ++ a.ads ++ A.adss as)
    rw [List.append_assoc]) rfl) hb
/-- a name handed in: data as it is, a tree is taken out of its slot -/
def cName (i : Nat) (wr : WC) : WC := fun en Q => match en[i]? with
  | some (.own (.dat x)) => wr en fun rs en2 => Q (.dat x :: rs) en2
  | some (.io (.dat x)) => wr en fun rs en2 => Q (.dat x :: rs) en2
  | some (.own (.scr x)) => wr en fun rs en2 => Q (.scr x :: rs) en2
  | some (.own (.nd k ts)) => wr (killL i 0 (en.set i (.out false))) fun rs en2 => Q (.nd k ts :: rs) en2
  | some (.io (.nd k ts)) => wr (killL i 0 (en.set i (.out true))) fun rs en2 => Q (.nd k ts :: rs) en2
  | _ => False
theorem dc_name {i : Nat} {x : Str} {pos : Pos} {wr : WC} (hr : DC X back es wr) (hN : X.N[i]? = some x := by rfl) (hv : Vis X.env.scope x := by first | exact Or.inl rfl | exact Or.inr (Or.inl rfl) | exact Or.inr (Or.inr rfl))
    (hs : starEach (.Name x pos :: es) X.env = (false, eval (.Name x pos) X.env) :: starEach es X.env := by rfl) (hd : (x == ("__debug__" : Str)) = false := by decide) (hcd : (x == ("__classdict__" : Str)) = false := by decide) :
    DC X (some i :: back) (.Name x pos :: es) (cName i wr) := by
  obtain ⟨tr, h3, h4⟩ := hr
  refine ⟨tCons (tVar i) tr, pa_cons (pe_var hN hv hd hcd) h3 hs, fun σ H Q Fz ev F R S hw k => ?_⟩
  -- data
  have dat : ∀ (u : Sl A) (y : PyData), ev[i]? = some u → u.tr = some (.dat y) → wr (AEn.er ev) (fun rs en2 => R (.dat y :: rs) en2) → tCons (tVar i) tr σ H Q := fun u y h1 h2 hw' => by
    obtain ⟨v, hσ, o⟩ := S.sl i u _ h1 h2
    refine ⟨v, hσ, ?_⟩
    refine h4 σ H _ Fz ev _ _ (S.pushD o) hw' fun vs H2 Fz2 as ev2 r2 e2 S2 hb => ?_
    exact k (v :: vs) H2 Fz2 (.dat y :: as) ev2 r2 e2 (S2.held_to ⟨S2.fr.1.1, ⟨v, vs, rfl, S2.fr.1.2, S2.fr.2⟩⟩ (by
      show (F.ads ++ ([] ++ A.adss as)).Perm (F.ads ++ [] ++ A.adss as)
      simp) rfl) ⟨hσ, hb⟩
  have tre : ∀ (u : Sl A) (t : A), ev[i]? = some u → u.tr = some t → wr (killL i 0 ((AEn.er ev).set i (.out u.isIo))) (fun rs en2 => R (t.er :: rs) en2) → tCons (tVar i) tr σ H Q := fun u t h1 h2 hw' => by
    obtain ⟨v, hσ, S1⟩ := S.take h1 h2
    refine ⟨v, hσ, ?_⟩
    refine h4 σ H _ Fz _ _ _ S1 (by rw [killL_er, er_set]; exact hw') fun vs H2 Fz2 as ev2 r2 e2 S2 hb => ?_
    exact k (v :: vs) H2 Fz2 (t :: as) ev2 r2 e2 (S2.held_to ⟨S2.fr.1.1, ⟨v, vs, rfl, S2.fr.1.2, S2.fr.2⟩⟩ (by
      show (F.ads ++ (t.ads ++ A.adss as)).Perm (F.ads ++ t.ads ++ A.adss as)
      rw [List.append_assoc]) rfl) ⟨hσ, hb⟩
  unfold cName at hw
  rw [AEn.er_get] at hw
  cases h1 : ev[i]? with
  | none => rw [h1] at hw; exact hw.elim
  | some u =>
    rw [h1] at hw
    cases u with
    | un => exact hw.elim
    | lnk j p => exact hw.elim
    | out b => exact hw.elim
    | own t =>
      cases t with
      | dat y => exact dat _ y h1 rfl hw
      | scr y =>
        obtain ⟨v, hσ, o⟩ := S.sl i _ _ h1 rfl
        refine ⟨v, hσ, ?_⟩
        refine h4 σ H _ Fz ev _ _ (S.push (G := .of X.px (.scr y) v) o List.nodup_nil fun a ha => nomatch ha) hw fun vs H2 Fz2 as ev2 r2 e2 S2 hb => ?_
        exact k (v :: vs) H2 Fz2 (.scr y :: as) ev2 r2 e2 (S2.held_to ⟨S2.fr.1.1, ⟨v, vs, rfl, S2.fr.1.2, S2.fr.2⟩⟩ (by
          show (F.ads ++ ([] ++ A.adss as)).Perm (F.ads ++ [] ++ A.adss as)
          simp) rfl) ⟨hσ, hb⟩
      | nd a dx kd ts => exact tre _ _ h1 rfl hw
    | io t =>
      cases t with
      | scr y => exact hw.elim
      | dat y => exact dat _ y h1 rfl hw
      | nd a dx kd ts => exact tre _ _ h1 rfl hw
/-- f(..) -/
def eCall (S : SpT) (back : List (Option Nat)) (w : WC) : WE := fun en Q => w en fun ts en1 => S ts fun r ts' => frc (giveB back ts' en1) (Q r)
theorem call_core {S : SpT} {w : WC} {ta : TA} (h : EvC X.px back ta w) {k : Nat} {E : XK} : EvE X.px (tCall (spT X.px S) [] E ta) (eCall S back w) := by
  intro σ H Q Fz ev F R SS hw kk
  refine h σ H _ Fz ev F _ SS hw fun vs H1 Fz1 ars ev1 r1 e1 S1 hb => ?_
  show spT X.px S (vs ++ []) H1 Q E
  rw [List.append_nil]
  have pc : ∀ (a b c : List Addr), (b ++ (a ++ c)).Perm (a ++ (c ++ b)) := fun a b c => by
    rw [← List.append_assoc a]
    exact List.perm_append_comm
  have h2 : Held Fz1 H1 ((Fr.ofs X.px ars vs).add ((Fr.env X.px (F.add (.ofs X.px ars vs)).pin σ ev1).add F)) := S1.held.to ⟨S1.fr.2, S1.held.ok.1, S1.fr.1⟩ (pc _ _ _)
  refine ⟨Fz1, ars, _, _, h2, r1, fun v H2 Fz2 ar ats' r2 e2 hh => ?_⟩
  have S3 : SA X.px Fz2 H2 σ ev1 ((F.add (.of X.px ar v)).add (.ofs X.px ats' vs)) := by
    refine SA.of_held (hh.to ⟨hh.ok.2.1.1, ⟨hh.ok.2.1.2, hh.ok.2.2⟩, hh.ok.1⟩ ?_)
    show (AEn.ads ev1 ++ (F.ads ++ ar.ads ++ A.adss ats')).Perm (A.adss ats' ++ (AEn.ads ev1 ++ F.ads ++ ar.ads))
    refine (List.perm_append_comm).trans ?_
    rw [List.append_assoc (F.ads ++ ar.ads)]
    refine (List.perm_append_comm).trans ?_
    simp only [List.append_assoc]
    exact List.Perm.refl _
  obtain ⟨ev', e3, S4⟩ := give_all back ev1 ats' vs S3 hb
  exact kk v H2 Fz2 ar ev' (by rw [e3]; rw [frc_eq] at r2; exact r2) (e1.trans e2) S4
/-- a def of the text that is called by its name: it keeps its promise over trees -/
structure Has (P : Program) (w : World) (K : PySem.W.Frag) (mg : Str → Option Value) (base : Heap) (k : Nat) (x : Str) (S : SpT) : Prop where
  ex : ∃ (f : Addr) (fd : FuncData) (ps : List Str), FnOk P w K mg base CX0 k f fd ps (spT ⟨P, w, K⟩ S) ∧ mg x = some (.ref f) ∧ PySem.W.keepIn K (.ref f) = true ∧ Binds K fd ps []
theorem de_call {k : Nat} {S : SpT} {w : WC} {x : Str} {pos pos' : Pos} (G : Has X.prog X.w X.K X.mg X.base k x S) (hr : Room k X.A) (hg : Gl X x) (h : DC X back (e :: es) w)
    (hdb : (x == ("__debug__" : Str)) = false := by decide) (he : starEach (e :: es) X.env = (false, eval e X.env) :: starEach es X.env := by rfl) (hpl : (backTo pos (starEach es X.env)).any (·.1) = false := by rfl) :
    DE X (.Call (.Name x pos') (e :: es) [] pos) (eCall S back w) := by
  obtain ⟨ta, h1, h2⟩ := h
  obtain ⟨f, fd, ps, G, hm, hk, hb⟩ := G
  exact ⟨_, pe_call G hr hg hm hk hb .nil pass0 h1 hdb he hpl, call_core (k := k) h2⟩
theorem de_call0 {k : Nat} {S : SpT} {x : Str} {pos pos' : Pos} (G : Has X.prog X.w X.K X.mg X.base k x S) (hr : Room k X.A) (hg : Gl X x) (hdb : (x == ("__debug__" : Str)) = false := by decide) :
    DE X (.Call (.Name x pos') [] [] pos) (eCall S [] cNil) := by
  obtain ⟨f, fd, ps, G, hm, hk, hb⟩ := G
  refine ⟨_, pe_call0 G hr hg hm hk hb .nil pass0 hdb, call_core (k := k) (w := cNil) (fun σ H Q Fz ev F R S h k => ?_)⟩
  exact k [] H Fz [] ev h (Ex.refl _) (S.held_to ⟨S.fr, rfl⟩ (by show (F.ads ++ []).Perm F.ads; rw [List.append_nil]) rfl) True.intro
end

/-! ### a def of the text -/
def argS (t : T) : Sl T := match t with
  | .dat x => .own (.dat x)
  | .scr ns => .own (.scr ns)
  | .nd k ts => .io (.nd k ts)
def argA (t : A) : Sl A := match t with
  | .dat x => .own (.dat x)
  | .scr ns => .own (.scr ns)
  | .nd a dx k ts => .io (.nd a dx k ts)
theorem argA_map (t : A) : (argA t).map A.er = argS t.er := by cases t <;> rfl
theorem argA_tr (t : A) : (argA t).tr = some t := by cases t <;> rfl
theorem argA_ads (t : A) : (argA t).ads = t.ads := by cases t <;> rfl
/-- the slots at a def's entry: n names in all -/
def startD (n : Nat) (ts : List T) : En := ts.map argS ++ List.replicate (n - ts.length) .un
/-- the arguments' trees at a def's end -/
def outs : List T → En → Option (List T)
  | [], _ => some []
  | .dat x :: ts, _ :: en => match outs ts en with
    | some rs => some (.dat x :: rs)
    | none => none
  | .scr ns :: ts, _ :: en => match outs ts en with
    | some rs => some (.scr ns :: rs)
    | none => none
  | .nd _ _ :: ts, s :: en => match s with
    | .io t => match outs ts en with
      | some rs => some (t :: rs)
      | none => none
    | _ => none
  | _ :: _, [] => none
/-- what a body is to reach -/
def endsOf (ts : List T) (R : T → List T → Prop) : EndsD where
  nx := fun en => ∃ rs, outs ts en = some rs ∧ R (.dat .none) rs
  rt := fun r en => ∃ rs, outs ts en = some rs ∧ R r rs
section
variable {Z : Px} {Fz H : Hp}
theorem AEn.ads_append (a b : AEn) : AEn.ads (a ++ b) = AEn.ads a ++ AEn.ads b := List.flatMap_append
theorem ads_args : ∀ ats : List A, AEn.ads (ats.map argA) = A.adss ats
  | [] => rfl
  | a :: as => by
    show (argA a).ads ++ AEn.ads (as.map argA) = a.ads ++ A.adss as
    rw [argA_ads, ads_args as]
theorem ads_un (n : Nat) : AEn.ads (List.replicate n .un) = [] := by
  induction n with
  | zero => rfl
  | succ n ih => rw [List.replicate_succ]; exact ih
theorem owns_at : ∀ {ts : List A} {vs : List V} {i : Nat} {t : A}, Owns Z Fz H ts vs → ts[i]? = some t → ∃ v, vs[i]? = some v ∧ Own Z Fz H t v := fun h e => h.at e
/-- the slots at the entry hold the arguments -/
theorem start_SA {N : List Str} {ats : List A} {vs : List V} {F : Fr} (h : Held Fz H ((Fr.ofs Z ats vs).add F)) (hN : ats.length ≤ N.length) :
    SA Z Fz H (L2.start N vs) (ats.map argA ++ List.replicate (N.length - ats.length) .un) { F with pin := fun i => vs[i]? } := by
  have hl : ats.length = vs.length := Owns.length (show Owns Z Fz H ats vs from h.ok.1)
  have get : ∀ (i : Nat) (u : Sl A), (ats.map argA ++ List.replicate (N.length - ats.length) (.un : Sl A))[i]? = some u → (∃ t, ats[i]? = some t ∧ u = argA t) ∨ u = .un := fun i u e => by
    by_cases hi : i < ats.length
    · rw [List.getElem?_append_left (by simpa using hi), List.getElem?_map, List.getElem?_eq_getElem hi] at e
      exact .inl ⟨ats[i], List.getElem?_eq_getElem hi, (Option.some.inj e).symm⟩
    · rw [List.getElem?_append_right (by simpa using hi)] at e
      exact .inr (List.eq_of_mem_replicate (List.mem_of_getElem? e))
  have sv : ∀ (i : Nat) (v : V), vs[i]? = some v → (L2.start N vs)[i]? = some (some v) := fun i v e => by
    have hi : i < vs.length := (List.getElem?_eq_some_iff.mp e).1
    unfold L2.start
    rw [List.getElem?_append_left (by simpa using hi), List.getElem?_map, e]
    rfl
  have ha : AEn.ads (ats.map argA ++ List.replicate (N.length - ats.length) (.un : Sl A)) = A.adss ats := by
    rw [AEn.ads_append, ads_args, ads_un, List.append_nil]
  refine ⟨h.ex, fun i u t e1 e2 => ?_, fun i j p e => ?_, h.ok.2, ?_, ?_, ?_, fun i u e1 e2 => ?_⟩
  · rcases get i u e1 with ⟨t', g1, rfl⟩ | rfl
    · rw [argA_tr] at e2
      cases e2
      obtain ⟨v, g2, g3⟩ := owns_at (show Owns Z Fz H ats vs from h.ok.1) g1
      exact ⟨v, sv i v g2, g3⟩
    · cases e2
  · rcases get i _ e with ⟨t', g1, g2⟩ | g2
    · cases t' <;> cases g2
    · cases g2
  · rw [ha]; exact h.nd
  · rw [ha]; exact h.fz
  · unfold L2.start
    simp only [List.length_append, List.length_map, List.length_replicate]
    omega
  · rcases get i u e1 with ⟨t', g1, rfl⟩ | rfl
    · obtain ⟨v, g2, _⟩ := owns_at (show Owns Z Fz H ats vs from h.ok.1) g1
      exact ⟨v, g2, sv i v g2⟩
    · cases e2
theorem start_er (n : Nat) (ats : List A) : AEn.er (ats.map argA ++ List.replicate (n - ats.length) .un) = startD n (A.ers ats) := by
  unfold AEn.er startD
  rw [List.map_append, List.map_map, List.map_replicate, A.ers_eq, List.map_map, List.length_map]
  congr 1
  exact List.map_congr_left fun t _ => argA_map t
/-- at the end the arguments' trees are there, at the places where they came from -/
theorem outs_ok : ∀ (ats : List A) (vs : List V) (ev : AEn) (rs : List T) (k : Nat) (σ : L2.St) (pin : Nat → Option V), outs (A.ers ats) (AEn.er ev) = some rs →
    (∀ (i : Nat) (t : A), ats[i]? = some t → t.ads = [] → ∃ v, vs[i]? = some v ∧ Own Z Fz H t v) → ats.length = vs.length →
    (∀ (i : Nat) (u : Sl A) (t : A), ev[i]? = some u → u.tr = some t → u.isIo = true → i < vs.length → ∃ v, vs[i]? = some v ∧ Own Z Fz H t v) →
    ∃ ars : List A, A.ers ars = rs ∧ Owns Z Fz H ars vs ∧ (A.adss ars).Sublist (AEn.ads ev)
  | [], vs, ev, rs, k, σ, pin, e, _, hl, _ => by
    have : vs = [] := List.eq_nil_of_length_eq_zero (by rw [← hl]; rfl)
    subst this
    cases e
    exact ⟨[], rfl, rfl, List.nil_sublist _⟩
  | a :: as, [], ev, rs, k, σ, pin, e, _, hl, _ => by cases hl
  | a :: as, v :: vs, [], rs, k, σ, pin, e, _, _, _ => by
    cases a <;> cases e
  | .dat x :: as, v :: vs, s :: ev, rs, k, σ, pin, e, hd, hl, hi => by
    have e' : (match outs (A.ers as) (AEn.er ev) with | some rs => some (T.dat x :: rs) | none => none) = some rs := e
    cases h : outs (A.ers as) (AEn.er ev) with
    | none => rw [h] at e'; cases e'
    | some r' =>
      rw [h] at e'
      cases e'
      obtain ⟨ars, h1, h2, h3⟩ := outs_ok as vs ev r' k σ pin h (fun i t g ey => hd (i + 1) t (by simpa using g) ey) (by simpa using hl) fun i u t g1 g2 g3 g4 => hi (i + 1) u t (by simpa using g1) g2 g3 (by simpa using g4)
      obtain ⟨w, g1, g2⟩ := hd 0 (.dat x) rfl rfl
      cases g1
      exact ⟨.dat x :: ars, by show T.dat x :: A.ers ars = _; rw [h1], ⟨v, vs, rfl, g2, h2⟩, h3.trans (List.sublist_append_right _ _)⟩
  | .scr x :: as, v :: vs, s :: ev, rs, k, σ, pin, e, hd, hl, hi => by
    have e' : (match outs (A.ers as) (AEn.er ev) with | some rs => some (T.scr x :: rs) | none => none) = some rs := e
    cases h : outs (A.ers as) (AEn.er ev) with
    | none => rw [h] at e'; cases e'
    | some r' =>
      rw [h] at e'
      cases e'
      obtain ⟨ars, h1, h2, h3⟩ := outs_ok as vs ev r' k σ pin h (fun i t g ey => hd (i + 1) t (by simpa using g) ey) (by simpa using hl) fun i u t g1 g2 g3 g4 => hi (i + 1) u t (by simpa using g1) g2 g3 (by simpa using g4)
      obtain ⟨w, g1, g2⟩ := hd 0 (.scr x) rfl rfl
      cases g1
      exact ⟨.scr x :: ars, by show T.scr x :: A.ers ars = _; rw [h1], ⟨v, vs, rfl, g2, h2⟩, h3.trans (List.sublist_append_right _ _)⟩
  | .nd a dx kd ts :: as, v :: vs, s :: ev, rs, k, σ, pin, e, hd, hl, hi => by
    cases s with
    | un => cases e
    | own t => cases e
    | lnk j p => cases e
    | out b => cases e
    | io t =>
      have e' : (match outs (A.ers as) (AEn.er ev) with | some rs => some (t.er :: rs) | none => none) = some rs := e
      cases h : outs (A.ers as) (AEn.er ev) with
      | none => rw [h] at e'; cases e'
      | some r' =>
        rw [h] at e'
        cases e'
        obtain ⟨ars, h1, h2, h3⟩ := outs_ok as vs ev r' k σ pin h (fun i t g ey => hd (i + 1) t (by simpa using g) ey) (by simpa using hl) fun i u t g1 g2 g3 g4 => hi (i + 1) u t (by simpa using g1) g2 g3 (by simpa using g4)
        obtain ⟨w, g1, g2⟩ := hi 0 (.io t) t rfl rfl rfl (by simp)
        cases g1
        exact ⟨t :: ars, by show t.er :: A.ers ars = _; rw [h1], ⟨v, vs, rfl, g2, h2⟩, List.Sublist.append (List.Sublist.refl _) h3⟩
end
section
variable {P : Program} {w : World} {K : PySem.W.Frag} {mg : Str → Option Value} {base : Heap}
/-- THE RULE for a def over trees: its body as a term of rules, and the reading of that term -/
theorem fn_ok {x qual : Str} {st : Stmt} {f : Addr} {fd : FuncData} {N ps : List Str} {k : Nat} {S : SpT} (F : FunD K x qual (defArgs st) (defBody st) (defScope st) [] [] f fd) (Sc : FnScope N ps (defScope st))
    (len : ∀ ts R, S ts R → ts.length = ps.length)
    (hbody : ∀ (cdv : Value) (A : Around) (outer : List Env) (s : Shared) (H : Hp) (E : XK), Room k (A.deeper (envOfC qual (defScope st) s.heap.objs.size f cdv)) →
      ∃ wb, DSs (cxOf CX0 P w K mg base N qual (defScope st) f cdv A outer s H E).nox (defBody st) wb ∧ ∀ ts R, S ts R → wb (endsOf ts R) (startD N.length ts)) :
    FnOk P w K mg base CX0 (k + 1) f fd ps (spT ⟨P, w, K⟩ S) := by
  have hle : ps.length ≤ N.length := by
    have h := congrArg List.length Sc.pre
    rw [List.length_take] at h
    omega
  refine F.ok Sc (fun vs H Q E h => ?_) (fun cdv Ar outer s H vs Q E hr h => ?_)
  · obtain ⟨Fz, ats, F', R, hh, hS, _⟩ := h
    have h1 := len _ _ hS
    have h2 : ats.length = vs.length := Owns.length (show Owns ⟨P, w, K⟩ Fz H ats vs from hh.ok.1)
    rw [← h1, A.ers_eq, List.length_map, h2]
  · obtain ⟨wb, ⟨t, ht, he⟩, hw⟩ := hbody cdv Ar outer s H E hr
    obtain ⟨Fz, ats, F', R, hh, hS, kk⟩ := h
    have hl : ats.length = vs.length := Owns.length (show Owns ⟨P, w, K⟩ Fz H ats vs from hh.ok.1)
    have hlen : ats.length ≤ N.length := by
      have h1 := len _ _ hS
      rw [A.ers_eq, List.length_map] at h1
      omega
    refine ⟨t, ht.nox, ?_⟩
    refine he (L2.start N vs) H _ Fz _ _ (endsOf (A.ers ats) R) (start_SA hh hlen) (by rw [start_er]; exact hw _ R hS) ?_
    have fin : ∀ {σ : L2.St} {H' Fz' : Hp} {ar : DL.A} {v : V} {ev : AEn} {G : Fr} {rs : List T}, G.pin = (fun i => vs[i]?) → SA ⟨P, w, K⟩ Fz' H' σ ev G → G.ads = F'.ads ++ ar.ads → (F'.add (.of ⟨P, w, K⟩ ar v)).ok Fz' H' → Ex Fz Fz' → outs (A.ers ats) (AEn.er ev) = some rs → R ar.er rs → Q v H' :=
      fun {σ H' Fz' ar v ev G rs} hp S ha hG ef ho hR => by
        have S' : SA ⟨P, w, K⟩ Fz' H' σ ev { F'.add (.of ⟨P, w, K⟩ ar v) with pin := fun i => vs[i]? } := S.held_to hG (by rw [ha]; exact List.Perm.refl _) hp.symm
        obtain ⟨ars, h1, h2, h3⟩ := outs_ok ats vs ev rs 0 σ (fun i => vs[i]?) ho (fun i t g ex => by
          obtain ⟨v', g1, g2⟩ := owns_at (show Owns ⟨P, w, K⟩ Fz H ats vs from hh.ok.1) g
          exact ⟨v', g1, Own.mono (H' := H') ef _ _ (fun a m => by rw [ex] at m; cases m) g2⟩) hl fun i u t g1 g2 g3 g4 => by
            obtain ⟨v', q1, q2⟩ := S'.sl i u t g1 g2
            obtain ⟨v2, q3, q4⟩ := S'.pn i u g1 g3
            rw [q1] at q4
            cases q4
            exact ⟨v', q3, q2⟩
        refine kk v H' Fz' ar ars (by rw [h1]; exact hR) ef ⟨S'.ex, ⟨h2, hG⟩, ?_, ?_⟩
        · exact S'.nd.sublist (List.Sublist.append h3 (List.Sublist.refl _))
        · exact fun a m => S'.fz a ((List.Sublist.append h3 (List.Sublist.refl _)).subset m)
    refine ⟨fun σ H' Fz' ev ⟨rs, ho, hR⟩ ef S => ?_, fun σ v H' Fz' ar ev ⟨rs, ho, hR⟩ ef S => ?_, fun _ _ _ _ r _ _ => r.elim, fun _ _ _ _ r _ _ => r.elim⟩
    · exact fin (ar := .dat .none) (v := .non) rfl S (by show F'.ads = F'.ads ++ []; rw [List.append_nil]) ⟨S.fr, .non⟩ ef ho hR
    · exact fin (ar := ar) (v := v) rfl S rfl S.fr ef ho hR
end
end DL

set_option maxRecDepth 100000
namespace DL
open PySem PySem.Spec PyProof.Rows L2
open Evl (Ex Ex.refl Ex.trans Ex.new Ex.mut ex_l ex_t ex_rd fresh_back)

/-! ### operations on values -/
abbrev F1 := T → (T → Prop) → Prop
abbrev F2 := T → T → (T → Prop) → Prop
def Op1 (Z : Px) (r : V → Hp → VK → Prop) (f : F1) : Prop := ∀ (σ : L2.St) (H : Hp) (Q : VK) (Fz : Hp) (ev : AEn) (F : Fr) (a : A) (v : V) (R : T → Prop), SA Z Fz H σ ev F → Own Z Fz H a v → f a.er R →
  (∀ v' H' Fz' a', R a'.er → Ex Fz Fz' → Ex H H' → SA Z Fz' H' σ ev (F.add (.of Z a' v')) → Q v' H') → r v H Q
def Op2 (Z : Px) (r : R2) (f : F2) : Prop := ∀ (σ : L2.St) (H : Hp) (Q : VK) (Fz : Hp) (ev : AEn) (F : Fr) (a b : A) (v u : V) (R : T → Prop), SA Z Fz H σ ev F → Own Z Fz H a v → Own Z Fz H b u → f a.er b.er R →
  (∀ v' H' Fz' a', R a'.er → Ex Fz Fz' → Ex H H' → SA Z Fz' H' σ ev (F.add (.of Z a' v')) → Q v' H') → r v u H Q
section
variable {X : Cx} {a b e : Expr}
/-- lifts: u: only looked at; e: may change; the answer frozen (u) or as it is (e) -/
def datQ (y : T) (Q : T → Prop) : Prop := match y.data? with
  | some d => Q (.dat d)
  | none => False
theorem datQ_of {y : T} {Q : T → Prop} (h : datQ y Q) : ∃ d, y.data? = some d ∧ Q (.dat d) := by
  unfold datQ at h
  cases e : y.data? with
  | none => rw [e] at h; exact h.elim
  | some d => rw [e] at h; exact ⟨d, rfl, h⟩
def u1 (f : F1) (w : WU) : WU := fun en Q => w en fun x => f x fun y => datQ y Q
def ue1 (f : F1) (w : WU) : WE := fun en Q => w en fun x => f x fun y => Q y en
def e1 (f : F1) (w : WE) : WE := fun en Q => w en fun x en1 => f x fun y => Q y en1
def u2 (f : F2) (w w' : WU) : WU := fun en Q => w en fun x => w' en fun y => f x y fun z => datQ z Q
def ue2 (f : F2) (w w' : WU) : WE := fun en Q => w en fun x => w' en fun y => f x y fun z => Q z en
def e2 (f : F2) (w w' : WE) : WE := fun en Q => w en fun x en1 => w' en1 fun y en2 => f x y fun z => Q z en2
def eu2 (f : F2) (w : WE) (w' : WU) : WE := fun en Q => w en fun x en1 => w' en1 fun y => f x y fun z => Q z en1
theorem du_1 {r : V → Hp → VK → Prop} {f : F1} {w : WU} (op : Op1 X.px r f) (h : DU X a w) (pe : ∀ t, PE X a t → PE X e (fun σ H Q => t σ H fun v H1 => r v H1 Q)) : DU X e (u1 f w) := by
  obtain ⟨t, h1, h2⟩ := h
  refine ⟨_, pe t h1, fun σ H Q Fz ev F R S hw k => ?_⟩
  refine h2 σ H _ Fz ev F _ S hw fun v H1 Fz1 ar r1 ef1 eh1 S1 o1 => ?_
  refine op σ H1 Q Fz1 ev F ar v _ S1 o1 r1 fun v' H2 Fz2 a' r2 ef2 eh2 S2 => ?_
  obtain ⟨d, hd, r2⟩ := datQ_of r2
  obtain ⟨Fz3, ef3, S3, dp⟩ := S2.frz hd
  exact k v' H2 Fz3 (.dat d) r2 ((ef1.trans ef2).trans ef3) (eh1.trans eh2) S3 dp
theorem due_1 {r : V → Hp → VK → Prop} {f : F1} {w : WU} (op : Op1 X.px r f) (h : DU X a w) (pe : ∀ t, PE X a t → PE X e (fun σ H Q => t σ H fun v H1 => r v H1 Q)) : DE X e (ue1 f w) := by
  obtain ⟨t, h1, h2⟩ := h
  refine ⟨_, pe t h1, fun σ H Q Fz ev F R S hw k => ?_⟩
  refine h2 σ H _ Fz ev F _ S hw fun v H1 Fz1 ar r1 ef1 eh1 S1 o1 => ?_
  exact op σ H1 Q Fz1 ev F ar v _ S1 o1 r1 fun v' H2 Fz2 a' r2 ef2 eh2 S2 => k v' H2 Fz2 a' ev r2 (ef1.trans ef2) S2
theorem de_1 {r : V → Hp → VK → Prop} {f : F1} {w : WE} (op : Op1 X.px r f) (h : DE X a w) (pe : ∀ t, PE X a t → PE X e (fun σ H Q => t σ H fun v H1 => r v H1 Q)) : DE X e (e1 f w) := by
  obtain ⟨t, h1, h2⟩ := h
  refine ⟨_, pe t h1, fun σ H Q Fz ev F R S hw k => ?_⟩
  refine h2 σ H _ Fz ev F _ S hw fun v H1 Fz1 ar ev1 r1 ef1 S1 => ?_
  exact op σ H1 Q Fz1 ev1 _ ar v _ S1 S1.fr.2 r1 fun v' H2 Fz2 a' r2 ef2 eh2 S2 => k v' H2 Fz2 a' ev1 r2 (ef1.trans ef2) S2.drop
theorem du_2 {r : R2} {f : F2} {w w' : WU} (op : Op2 X.px r f) (h : DU X a w) (h' : DU X b w') (pe : ∀ t t', PE X a t → PE X b t' → PE X e (tOp r t t')) : DU X e (u2 f w w') := by
  obtain ⟨t, h1, h2⟩ := h
  obtain ⟨t', h3, h4⟩ := h'
  refine ⟨_, pe t t' h1 h3, fun σ H Q Fz ev F R S hw k => ?_⟩
  refine h2 σ H _ Fz ev F _ S hw fun v H1 Fz1 ar r1 ef1 eh1 S1 o1 => ?_
  refine h4 σ H1 _ Fz1 ev F _ S1 r1 fun u H2 Fz2 br r2 ef2 eh2 S2 o2 => ?_
  refine op σ H2 Q Fz2 ev F ar br v u _ S2 (o1.ext ef2 eh2) o2 r2 fun v' H3 Fz3 a' r3 ef3 eh3 S3 => ?_
  obtain ⟨d, hd, r3⟩ := datQ_of r3
  obtain ⟨Fz4, ef4, S4, dp⟩ := S3.frz hd
  exact k v' H3 Fz4 (.dat d) r3 (((ef1.trans ef2).trans ef3).trans ef4) ((eh1.trans eh2).trans eh3) S4 dp
theorem due_2 {r : R2} {f : F2} {w w' : WU} (op : Op2 X.px r f) (h : DU X a w) (h' : DU X b w') (pe : ∀ t t', PE X a t → PE X b t' → PE X e (tOp r t t')) : DE X e (ue2 f w w') := by
  obtain ⟨t, h1, h2⟩ := h
  obtain ⟨t', h3, h4⟩ := h'
  refine ⟨_, pe t t' h1 h3, fun σ H Q Fz ev F R S hw k => ?_⟩
  refine h2 σ H _ Fz ev F _ S hw fun v H1 Fz1 ar r1 ef1 eh1 S1 o1 => ?_
  refine h4 σ H1 _ Fz1 ev F _ S1 r1 fun u H2 Fz2 br r2 ef2 eh2 S2 o2 => ?_
  exact op σ H2 Q Fz2 ev F ar br v u _ S2 (o1.ext ef2 eh2) o2 r2 fun v' H3 Fz3 a' r3 ef3 eh3 S3 => k v' H3 Fz3 a' ev r3 ((ef1.trans ef2).trans ef3) S3
theorem de_2 {r : R2} {f : F2} {w w' : WE} (op : Op2 X.px r f) (h : DE X a w) (h' : DE X b w') (pe : ∀ t t', PE X a t → PE X b t' → PE X e (tOp r t t')) : DE X e (e2 f w w') := by
  obtain ⟨t, h1, h2⟩ := h
  obtain ⟨t', h3, h4⟩ := h'
  refine ⟨_, pe t t' h1 h3, fun σ H Q Fz ev F R S hw k => ?_⟩
  refine h2 σ H _ Fz ev F _ S hw fun v H1 Fz1 ar ev1 r1 ef1 S1 => ?_
  refine h4 σ H1 _ Fz1 ev1 _ _ S1 r1 fun u H2 Fz2 br ev2 r2 ef2 S2 => ?_
  exact op σ H2 Q Fz2 ev2 _ ar br v u _ S2 S2.fr.1.2 S2.fr.2 r2 fun v' H3 Fz3 a' r3 ef3 eh3 S3 => k v' H3 Fz3 a' ev2 r3 ((ef1.trans ef2).trans ef3) S3.drop.drop
theorem deu_2 {r : R2} {f : F2} {w : WE} {w' : WU} (op : Op2 X.px r f) (h : DE X a w) (h' : DU X b w') (pe : ∀ t t', PE X a t → PE X b t' → PE X e (tOp r t t')) : DE X e (eu2 f w w') := by
  obtain ⟨t, h1, h2⟩ := h
  obtain ⟨t', h3, h4⟩ := h'
  refine ⟨_, pe t t' h1 h3, fun σ H Q Fz ev F R S hw k => ?_⟩
  refine h2 σ H _ Fz ev F _ S hw fun v H1 Fz1 ar ev1 r1 ef1 S1 => ?_
  refine h4 σ H1 _ Fz1 ev1 _ _ S1 r1 fun u H2 Fz2 br r2 ef2 eh2 S2 o2 => ?_
  exact op σ H2 Q Fz2 ev1 _ ar br v u _ S2 S2.fr.2 o2 r2 fun v' H3 Fz3 a' r3 ef3 eh3 S3 => k v' H3 Fz3 a' ev1 r3 ((ef1.trans ef2).trans ef3) S3.drop
end

/-! ### names and constants -/
def En.tree (en : En) (i : Nat) : Option T := match en[i]? with
  | some (.own t) => some t
  | some (.io t) => some t
  | some (.lnk j p) => match en[j]? with
    | some s => match s.tr with
      | some t => t.get? p
      | none => none
    | none => none
  | _ => none
def uVar (i : Nat) : WU := fun en Q => match En.tree en i with
  | some t => Q t
  | none => False
def uC (x : PyData) : WU := fun _ Q => Q (.dat x)
section
variable {X : Cx}
theorem SA.tree {Z : Px} {Fz H : Hp} {σ : L2.St} {ev : AEn} {F : Fr} (S : SA Z Fz H σ ev F) {i : Nat} {t : T} (h : En.tree (AEn.er ev) i = some t) : ∃ (a : A) (v : V), a.er = t ∧ σ[i]? = some (some v) ∧ Own Z Fz H a v := by
  unfold En.tree at h
  rw [AEn.er_get] at h
  cases hi : ev[i]? with
  | none => rw [hi] at h; cases h
  | some u =>
    rw [hi] at h
    cases u with
    | un => cases h
    | out b => cases h
    | own a =>
      obtain ⟨v, h1, h2⟩ := S.sl i _ a hi rfl
      exact ⟨a, v, Option.some.inj h, h1, h2⟩
    | io a =>
      obtain ⟨v, h1, h2⟩ := S.sl i _ a hi rfl
      exact ⟨a, v, Option.some.inj h, h1, h2⟩
    | lnk j p =>
      obtain ⟨u, t0, a, dx, k, ts, g1, g2, g3, g4⟩ := S.lk i j p hi
      have h' : (match (AEn.er ev)[j]? with | some s => (match s.tr with | some t => t.get? p | none => none) | none => none) = some t := h
      rw [AEn.er_get, g1] at h'
      have h2 : (match (u.map A.er).tr with | some t => t.get? p | none => none) = some t := h'
      rw [Sl.map_tr, g2] at h2
      have h3 : t0.er.get? p = some t := h2
      rw [A.er_get, g3] at h3
      obtain ⟨v, q1, q2⟩ := S.sl j u t0 g1 g2
      obtain ⟨sv, l, r, o, _⟩ := Own.at_ p t0 v _ q2 g3
      have e : sv = .ref a := o.1
      exact ⟨_, _, Option.some.inj h3, by rw [g4, ← e], o⟩
theorem du_var {i : Nat} {x : Str} {pos : Pos} (hN : X.N[i]? = some x := by rfl) (hv : Vis X.env.scope x := by first | exact Or.inl rfl | exact Or.inr (Or.inl rfl) | exact Or.inr (Or.inr rfl)) (hd : (x == ("__debug__" : Str)) = false := by decide)
    (hcd : (x == ("__classdict__" : Str)) = false := by decide) : DU X (.Name x pos) (uVar i) := by
  refine ⟨tVar i, pe_var hN hv hd hcd, fun σ H Q Fz ev F R S hw k => ?_⟩
  unfold uVar at hw
  cases h : En.tree (AEn.er ev) i with
  | none => rw [h] at hw; exact hw.elim
  | some t =>
    rw [h] at hw
    obtain ⟨a, v, e, h1, h2⟩ := S.tree h
    subst e
    exact ⟨v, h1, k v H Fz a hw (Ex.refl _) (Ex.refl _) S h2⟩
theorem du_int {i j pos} : DU X (.Constant (.int i) j pos) (uC (.int i)) := ⟨_, pe_int, fun σ H Q Fz ev F R S hw k => k _ H Fz (.dat (.int i)) hw (Ex.refl _) (Ex.refl _) S (.int _)⟩
theorem du_bl {b j pos} : DU X (.Constant (.bool b) j pos) (uC (.bool b)) := ⟨_, pe_bl, fun σ H Q Fz ev F R S hw k => k _ H Fz (.dat (.bool b)) hw (Ex.refl _) (Ex.refl _) S (.bl _)⟩
theorem du_non {j pos} : DU X (.Constant .none j pos) (uC .none) := ⟨_, pe_non, fun σ H Q Fz ev F R S hw k => k _ H Fz (.dat .none) hw (Ex.refl _) (Ex.refl _) S .non⟩
theorem du_str {x j pos} : DU X (.Constant (.str x) j pos) (uC (.str x)) := ⟨_, pe_str, fun σ H Q Fz ev F R S hw k => k _ H Fz (.dat (.str x)) hw (Ex.refl _) (Ex.refl _) S (.str _)⟩
/-- a name whose tree goes on: data as it is, a tree is taken out of its slot -/
def eName (i : Nat) : WE := fun en Q => match en[i]? with
  | some (.own (.dat x)) => Q (.dat x) en
  | some (.io (.dat x)) => Q (.dat x) en
  | some (.own (.nd k ts)) => Q (.nd k ts) (killL i 0 (en.set i (.out false)))
  | _ => False
theorem de_name {i : Nat} {x : Str} {pos : Pos} (hN : X.N[i]? = some x := by rfl) (hv : Vis X.env.scope x := by first | exact Or.inl rfl | exact Or.inr (Or.inl rfl) | exact Or.inr (Or.inr rfl)) (hd : (x == ("__debug__" : Str)) = false := by decide)
    (hcd : (x == ("__classdict__" : Str)) = false := by decide) : DE X (.Name x pos) (eName i) := by
  refine ⟨tVar i, pe_var hN hv hd hcd, fun σ H Q Fz ev F R S hw k => ?_⟩
  unfold eName at hw
  rw [AEn.er_get] at hw
  cases h1 : ev[i]? with
  | none => rw [h1] at hw; exact hw.elim
  | some u =>
    rw [h1] at hw
    cases u with
    | un => exact hw.elim
    | lnk j p => exact hw.elim
    | out b => exact hw.elim
    | own t =>
      cases t with
      | scr y => exact hw.elim
      | dat y =>
        obtain ⟨v, hσ, o⟩ := S.sl i _ _ h1 rfl
        exact ⟨v, hσ, k v H Fz (.dat y) ev hw (Ex.refl _) (S.pushD o)⟩
      | nd a dx kd ts =>
        obtain ⟨v, hσ, S1⟩ := S.take h1 rfl
        exact ⟨v, hσ, k v H Fz _ _ (by rw [killL_er, er_set]; exact hw) (Ex.refl _) S1⟩
    | io t =>
      cases t with
      | scr y => exact hw.elim
      | dat y =>
        obtain ⟨v, hσ, o⟩ := S.sl i _ _ h1 rfl
        exact ⟨v, hσ, k v H Fz (.dat y) ev hw (Ex.refl _) (S.pushD o)⟩
      | nd a dx kd ts => exact hw.elim
end

/-! ### tests -/
section
variable {X : Cx} {e a b : Expr}
def tV (w : WE) : WT := fun en Q => w en fun r en1 => match r with
  | .dat (.bool c) => Q c en1
  | _ => False
/-- the truth of a tree -/
def T.truth : T → Option Bool
  | .dat .none => some false
  | .dat (.bool b) => some b
  | .dat (.int i) => some (i != 0)
  | .dat (.str s) => some (s.length != 0)
  | .dat (.list xs) => some (!xs.isEmpty)
  | .dat (.tuple xs) => some (!xs.isEmpty)
  | .dat (.dict _) => none
  | .scr ns => some (!ns.isEmpty)
  | .nd .lst ts => some (!ts.isEmpty)
  | .nd (.dic _ _) _ => none
  | .nd (.ins _ _) _ => none
theorem bool_of {Z : Px} {Fz H : Hp} {ar : A} {v : V} (o : Own Z Fz H ar v) {c : Bool} (h : ar.er = .dat (.bool c)) : v = .bl c := by
  cases ar with
  | dat x =>
    have : x = .bool c := by cases h; rfl
    subst this
    cases o; rfl
  | nd a dx k ts => cases h
  | scr ns => cases h
theorem dt_v {w : WE} (h : DE X e w) (he : ∀ whole, isTrue e X.env whole = (do let v ← whole; standAt e.pos; holding [v] (truthy v)) := by intro _; rfl) : DT X e (tV w) := by
  obtain ⟨t, h1, h2⟩ := h
  refine ⟨tB t, pt_val h1 he, fun σ H Q Fz ev F R S hw k => ?_⟩
  refine h2 σ H _ Fz ev F _ S hw fun v H1 Fz1 ar ev1 r1 ef1 S1 => ?_
  cases ar with
  | nd a dx kd ts => exact r1.elim
  | scr ns => exact r1.elim
  | dat x =>
    cases x with
    | bool c =>
      cases (show Dv X.K Fz1 v (.bool c) from S1.fr.2)
      exact ⟨c, rfl, k c H1 Fz1 ev1 r1 ef1 S1.pop⟩
    | _ => exact r1.elim
/-- a comparison as a test -/
theorem dt_cmp {r : R2} {f : F2} {w w' : WE} (op : Op2 X.px r f) (h : DE X a w) (h' : DE X b w') (pt : ∀ t t', PE X a t → PE X b t' → PT X e (tTest (tOp r t t'))) : DT X e (tV (e2 f w w')) := by
  obtain ⟨t, h1, h2⟩ := h
  obtain ⟨t', h3, h4⟩ := h'
  refine ⟨_, pt t t' h1 h3, fun σ H Q Fz ev F R S hw k => ?_⟩
  refine h2 σ H _ Fz ev F _ S hw fun v H1 Fz1 ar ev1 r1 ef1 S1 => ?_
  refine h4 σ H1 _ Fz1 ev1 _ _ S1 r1 fun u H2 Fz2 br ev2 r2 ef2 S2 => ?_
  refine op σ H2 _ Fz2 ev2 _ ar br v u _ S2 S2.fr.1.2 S2.fr.2 r2 fun v' H3 Fz3 a' r3 ef3 eh3 S3 => ?_
  cases a' with
  | nd a dx kd ts => exact r3.elim
  | scr ns => exact r3.elim
  | dat x =>
    cases x with
    | bool c =>
      cases (show Dv X.K Fz3 v' (.bool c) from S3.fr.2)
      exact ⟨c, rfl, k c H3 Fz3 ev2 r3 ((ef1.trans ef2).trans ef3) S3.pop.pop.pop⟩
    | _ => exact r3.elim
theorem dt_cmpU {r : R2} {f : F2} {w w' : WU} (op : Op2 X.px r f) (h : DU X a w) (h' : DU X b w') (pt : ∀ t t', PE X a t → PE X b t' → PT X e (tTest (tOp r t t'))) : DT X e (tV (ue2 f w w')) := by
  obtain ⟨t, h1, h2⟩ := h
  obtain ⟨t', h3, h4⟩ := h'
  refine ⟨_, pt t t' h1 h3, fun σ H Q Fz ev F R S hw k => ?_⟩
  refine h2 σ H _ Fz ev F _ S hw fun v H1 Fz1 ar r1 ef1 eh1 S1 o1 => ?_
  refine h4 σ H1 _ Fz1 ev F _ S1 r1 fun u H2 Fz2 br r2 ef2 eh2 S2 o2 => ?_
  refine op σ H2 _ Fz2 ev F ar br v u _ S2 (o1.ext ef2 eh2) o2 r2 fun v' H3 Fz3 a' r3 ef3 eh3 S3 => ?_
  cases a' with
  | nd a dx kd ts => exact r3.elim
  | scr ns => exact r3.elim
  | dat x =>
    cases x with
    | bool c =>
      cases (show Dv X.K Fz3 v' (.bool c) from S3.fr.2)
      exact ⟨c, rfl, k c H3 Fz3 ev r3 ((ef1.trans ef2).trans ef3) S3.pop⟩
    | _ => exact r3.elim
theorem dt_cmpEU {r : R2} {f : F2} {w : WE} {w' : WU} (op : Op2 X.px r f) (h : DE X a w) (h' : DU X b w') (pt : ∀ t t', PE X a t → PE X b t' → PT X e (tTest (tOp r t t'))) : DT X e (tV (eu2 f w w')) := by
  obtain ⟨t, h1, h2⟩ := h
  obtain ⟨t', h3, h4⟩ := h'
  refine ⟨_, pt t t' h1 h3, fun σ H Q Fz ev F R S hw k => ?_⟩
  refine h2 σ H _ Fz ev F _ S hw fun v H1 Fz1 ar ev1 r1 ef1 S1 => ?_
  refine h4 σ H1 _ Fz1 ev1 _ _ S1 r1 fun u H2 Fz2 br r2 ef2 eh2 S2 o2 => ?_
  refine op σ H2 _ Fz2 ev1 _ ar br v u _ S2 S2.fr.2 o2 r2 fun v' H3 Fz3 a' r3 ef3 eh3 S3 => ?_
  cases a' with
  | nd a dx kd ts => exact r3.elim
  | scr ns => exact r3.elim
  | dat x =>
    cases x with
    | bool c =>
      cases (show Dv X.K Fz3 v' (.bool c) from S3.fr.2)
      exact ⟨c, rfl, k c H3 Fz3 ev1 r3 ((ef1.trans ef2).trans ef3) S3.pop.pop⟩
    | _ => exact r3.elim
def tNotD (w : WT) : WT := fun en Q => w en fun b en1 => Q (!b) en1
theorem dt_not {w : WT} {pos : Pos} (h : DT X a w) : DT X (.UnaryOp .Not a pos) (tNotD w) := by
  obtain ⟨t, h1, h2⟩ := h
  exact ⟨_, pt_not h1, fun σ H Q Fz ev F R S hw k => h2 σ H _ Fz ev F _ S hw fun b H1 Fz1 ev1 r1 ef1 S1 => k (!b) H1 Fz1 ev1 r1 ef1 S1⟩
def tAndD (w w' : WT) : WT := fun en Q => w en fun b en1 => match b with
  | true => w' en1 Q
  | false => Q false en1
def tOrD (w w' : WT) : WT := fun en Q => w en fun b en1 => match b with
  | true => Q true en1
  | false => w' en1 Q
theorem dw_and1 {w : WT} {pos : Pos} (h : DT X a w) : DW X (.BoolOp .And [a] pos) w := let ⟨t, h1, h2⟩ := h.ex; ⟨t, pw_and1 h1, h2⟩
theorem dw_or1 {w : WT} {pos : Pos} (h : DT X a w) : DW X (.BoolOp .Or [a] pos) w := let ⟨t, h1, h2⟩ := h.ex; ⟨t, pw_or1 h1, h2⟩
theorem dw_and {w w' : WT} {pos : Pos} {rest : List Expr} (h : DT X a w) (h' : DW X (.BoolOp .And (b :: rest) pos) w') : DW X (.BoolOp .And (a :: b :: rest) pos) (tAndD w w') := by
  obtain ⟨t, h1, h2⟩ := h
  obtain ⟨t', h3, h4⟩ := h'
  refine ⟨_, pw_and h1 h3, fun σ H Q Fz ev F R S hw k => ?_⟩
  refine h2 σ H _ Fz ev F _ S hw fun c H1 Fz1 ev1 r1 ef1 S1 => ?_
  cases c with
  | true => exact h4 σ H1 _ Fz1 ev1 F R S1 r1 fun b H2 Fz2 ev2 r2 ef2 S2 => k b H2 Fz2 ev2 r2 (ef1.trans ef2) S2
  | false => exact k false H1 Fz1 ev1 r1 ef1 S1
theorem dw_or {w w' : WT} {pos : Pos} {rest : List Expr} (h : DT X a w) (h' : DW X (.BoolOp .Or (b :: rest) pos) w') : DW X (.BoolOp .Or (a :: b :: rest) pos) (tOrD w w') := by
  obtain ⟨t, h1, h2⟩ := h
  obtain ⟨t', h3, h4⟩ := h'
  refine ⟨_, pw_or h1 h3, fun σ H Q Fz ev F R S hw k => ?_⟩
  refine h2 σ H _ Fz ev F _ S hw fun c H1 Fz1 ev1 r1 ef1 S1 => ?_
  cases c with
  | true => exact k true H1 Fz1 ev1 r1 ef1 S1
  | false => exact h4 σ H1 _ Fz1 ev1 F R S1 r1 fun b H2 Fz2 ev2 r2 ef2 S2 => k b H2 Fz2 ev2 r2 (ef1.trans ef2) S2
theorem DW.dt {w : WT} (h : DW X e w) : DT X e w := let ⟨t, h1, h2⟩ := h.ex; ⟨t, h1.pt, h2⟩
/-- as values -/
def eAndD (w w' : WE) : WE := fun en Q => w en fun r en1 => match r with
  | .dat (.bool true) => w' en1 Q
  | .dat (.bool false) => Q (.dat (.bool false)) en1
  | _ => False
def eOrD (w w' : WE) : WE := fun en Q => w en fun r en1 => match r with
  | .dat (.bool true) => Q (.dat (.bool true)) en1
  | .dat (.bool false) => w' en1 Q
  | _ => False
theorem de_one {op} {w : WE} {pos : Pos} (h : DE X a w) : DE X (.BoolOp op [a] pos) w := let ⟨t, h1, h2⟩ := h.ex; ⟨t, pe_one h1, h2⟩
theorem de_and {w w' : WE} {pos : Pos} {rest : List Expr} (h : DE X a w) (h' : DE X (.BoolOp .And (b :: rest) pos) w') : DE X (.BoolOp .And (a :: b :: rest) pos) (eAndD w w') := by
  obtain ⟨t, h1, h2⟩ := h
  obtain ⟨t', h3, h4⟩ := h'
  refine ⟨_, pe_and h1 h3, fun σ H Q Fz ev F R S hw k => ?_⟩
  refine h2 σ H _ Fz ev F _ S hw fun v H1 Fz1 ar ev1 r1 ef1 S1 => ?_
  cases ar with
  | nd a dx kd ts => exact r1.elim
  | scr ns => exact r1.elim
  | dat x =>
    cases x with
    | bool c =>
      cases (show Dv X.K Fz1 v (.bool c) from S1.fr.2)
      refine ⟨c, rfl, ?_⟩
      cases c with
      | true => exact h4 σ H1 Q Fz1 ev1 F R S1.pop r1 fun v H2 Fz2 ar ev2 r2 ef2 S2 => k v H2 Fz2 ar ev2 r2 (ef1.trans ef2) S2
      | false => exact k (.bl false) H1 Fz1 (.dat (.bool false)) ev1 r1 ef1 S1
    | _ => exact r1.elim
theorem de_or {w w' : WE} {pos : Pos} {rest : List Expr} (h : DE X a w) (h' : DE X (.BoolOp .Or (b :: rest) pos) w') : DE X (.BoolOp .Or (a :: b :: rest) pos) (eOrD w w') := by
  obtain ⟨t, h1, h2⟩ := h
  obtain ⟨t', h3, h4⟩ := h'
  refine ⟨_, pe_or h1 h3, fun σ H Q Fz ev F R S hw k => ?_⟩
  refine h2 σ H _ Fz ev F _ S hw fun v H1 Fz1 ar ev1 r1 ef1 S1 => ?_
  cases ar with
  | nd a dx kd ts => exact r1.elim
  | scr ns => exact r1.elim
  | dat x =>
    cases x with
    | bool c =>
      cases (show Dv X.K Fz1 v (.bool c) from S1.fr.2)
      refine ⟨c, rfl, ?_⟩
      cases c with
      | false => exact h4 σ H1 Q Fz1 ev1 F R S1.pop r1 fun v H2 Fz2 ar ev2 r2 ef2 S2 => k v H2 Fz2 ar ev2 r2 (ef1.trans ef2) S2
      | true => exact k (.bl true) H1 Fz1 (.dat (.bool true)) ev1 r1 ef1 S1
    | _ => exact r1.elim
/-- not x as a value -/
def eNot (w : WE) : WE := fun en Q => w en fun r en1 => match r with
  | .dat (.bool c) => Q (.dat (.bool !c)) en1
  | _ => False
theorem de_not {w : WE} {pos : Pos} (h : DE X a w) : DE X (.UnaryOp .Not a pos) (eNot w) := by
  obtain ⟨t, h1, h2⟩ := h
  refine ⟨_, pe_not h1, fun σ H Q Fz ev F R S hw k => ?_⟩
  refine h2 σ H _ Fz ev F _ S hw fun v H1 Fz1 ar ev1 r1 ef1 S1 => ?_
  cases ar with
  | nd a dx kd ts => exact r1.elim
  | scr ns => exact r1.elim
  | dat x =>
    cases x with
    | bool c =>
      cases (show Dv X.K Fz1 v (.bool c) from S1.fr.2)
      exact ⟨c, rfl, k _ H1 Fz1 (.dat (.bool !c)) ev1 r1 ef1 (S1.pop.pushD (.bl _))⟩
    | _ => exact r1.elim
def eIf (w : WT) (w1 w2 : WE) : WE := fun en Q => w en fun b en1 => match b with
  | true => w1 en1 Q
  | false => w2 en1 Q
theorem de_if {c : Expr} {w : WT} {w1 w2 : WE} {pos : Pos} (h : DT X c w) (h1 : DE X a w1) (h2 : DE X b w2) : DE X (.IfExp c a b pos) (eIf w w1 w2) := by
  obtain ⟨t, g1, g2⟩ := h
  obtain ⟨t1, g3, g4⟩ := h1
  obtain ⟨t2, g5, g6⟩ := h2
  refine ⟨_, pe_ifExp g1 g3 g5, fun σ H Q Fz ev F R S hw k => ?_⟩
  refine g2 σ H _ Fz ev F _ S hw fun c H1 Fz1 ev1 r1 ef1 S1 => ?_
  cases c with
  | true => exact g4 σ H1 Q Fz1 ev1 F R S1 r1 fun v H2 Fz2 ar ev2 r2 ef2 S2 => k v H2 Fz2 ar ev2 r2 (ef1.trans ef2) S2
  | false => exact g6 σ H1 Q Fz1 ev1 F R S1 r1 fun v H2 Fz2 ar ev2 r2 ef2 S2 => k v H2 Fz2 ar ev2 r2 (ef1.trans ef2) S2
end
end DL

set_option maxRecDepth 100000
namespace DL
open PySem PySem.Spec PyProof.Rows L2
open Evl (Ex Ex.refl Ex.trans Ex.new Ex.mut ex_l ex_t ex_rd fresh_back)

/-! ### new values, made without a change -/
def EvN (Z : Px) (t : TE) (w : WU) : Prop := ∀ (σ : L2.St) (H : Hp) (Q : VK) (Fz : Hp) (ev : AEn) (F : Fr) (R : T → Prop), SA Z Fz H σ ev F → w (AEn.er ev) R →
  (∀ v H' Fz' ar, R ar.er → Ex Fz Fz' → Ex H H' → SA Z Fz' H' σ ev (F.add (.of Z ar v)) → Q v H') → t σ H Q
structure DN (X : Cx) (e : Expr) (w : WU) : Prop where
  ex : ∃ t, PE X e t ∧ EvN X.px t w
def uN (w : WU) : WU := fun en Q => w en fun y => datQ y Q
def eN (w : WU) : WE := fun en Q => w en fun y => Q y en
def n1 (f : F1) (w : WU) : WU := fun en Q => w en fun x => f x Q
def n2 (f : F2) (w w' : WU) : WU := fun en Q => w en fun x => w' en fun y => f x y Q
section
variable {X : Cx} {a b e : Expr} {w w' : WU}
theorem DN.toU (h : DN X e w) : DU X e (uN w) := by
  obtain ⟨t, h1, h2⟩ := h
  refine ⟨t, h1, fun σ H Q Fz ev F R S hw k => h2 σ H Q Fz ev F _ S hw fun v H1 Fz1 ar r1 ef1 eh1 S1 => ?_⟩
  obtain ⟨d, hd, r2⟩ := datQ_of r1
  obtain ⟨Fz3, ef3, S3, dp⟩ := S1.frz hd
  exact k v H1 Fz3 (.dat d) r2 (ef1.trans ef3) eh1 S3 dp
theorem DN.toE (h : DN X e w) : DE X e (eN w) := by
  obtain ⟨t, h1, h2⟩ := h
  exact ⟨t, h1, fun σ H Q Fz ev F R S hw k => h2 σ H Q Fz ev F _ S hw fun v H1 Fz1 ar r1 ef1 eh1 S1 => k v H1 Fz1 ar ev r1 ef1 S1⟩
end

/-! ### rules as objects: an operation and where it stands in the text -/
structure UR (X : Cx) (a e : Expr) (f : F1) : Prop where
  ex : ∃ r, Op1 X.px r f ∧ ∀ t, PE X a t → PE X e (fun σ H Q => t σ H fun v H1 => r v H1 Q)
structure BR (X : Cx) (a b e : Expr) (f : F2) : Prop where
  ex : ∃ r, Op2 X.px r f ∧ ∀ t t', PE X a t → PE X b t' → PE X e (tOp r t t')
structure CR (X : Cx) (a b e : Expr) (f : F2) : Prop where
  ex : ∃ r, Op2 X.px r f ∧ (∀ t t', PE X a t → PE X b t' → PE X e (tOp r t t')) ∧ ∀ t t', PE X a t → PE X b t' → PT X e (tTest (tOp r t t'))
section
variable {X : Cx} {a b e : Expr} {f : F1} {g : F2} {w w' : WU} {v v' : WE}
theorem CR.br (h : CR X a b e g) : BR X a b e g := let ⟨r, h1, h2, _⟩ := h.ex; ⟨r, h1, h2⟩
/-- of things looked at -/
theorem UR.toN (r : UR X a e f) (h : DU X a w) : DN X e (n1 f w) := by
  obtain ⟨r, op, pe⟩ := r
  obtain ⟨t, h1, h2⟩ := h
  refine ⟨_, pe t h1, fun σ H Q Fz ev F R S hw k => ?_⟩
  refine h2 σ H _ Fz ev F _ S hw fun v H1 Fz1 ar r1 ef1 eh1 S1 o1 => ?_
  exact op σ H1 Q Fz1 ev F ar v _ S1 o1 r1 fun v' H2 Fz2 a' r2 ef2 eh2 S2 => k v' H2 Fz2 a' r2 (ef1.trans ef2) (eh1.trans eh2) S2
theorem BR.toN (r : BR X a b e g) (h : DU X a w) (h' : DU X b w') : DN X e (n2 g w w') := by
  obtain ⟨r, op, pe⟩ := r
  obtain ⟨t, h1, h2⟩ := h
  obtain ⟨t', h3, h4⟩ := h'
  refine ⟨_, pe t t' h1 h3, fun σ H Q Fz ev F R S hw k => ?_⟩
  refine h2 σ H _ Fz ev F _ S hw fun v H1 Fz1 ar r1 ef1 eh1 S1 o1 => ?_
  refine h4 σ H1 _ Fz1 ev F _ S1 r1 fun u H2 Fz2 br r2 ef2 eh2 S2 o2 => ?_
  exact op σ H2 Q Fz2 ev F ar br v u _ S2 (o1.ext ef2 eh2) o2 r2 fun v' H3 Fz3 a' r3 ef3 eh3 S3 => k v' H3 Fz3 a' r3 ((ef1.trans ef2).trans ef3) ((eh1.trans eh2).trans eh3) S3
/-- where a call may change things on the way -/
theorem UR.toE (r : UR X a e f) (h : DE X a v) : DE X e (e1 f v) := let ⟨_, h1, h2⟩ := r.ex; de_1 h1 h h2
theorem BR.toE (r : BR X a b e g) (h : DE X a v) (h' : DE X b v') : DE X e (e2 g v v') := let ⟨_, h1, h2⟩ := r.ex; de_2 h1 h h' h2
theorem BR.toEU (r : BR X a b e g) (h : DE X a v) (h' : DU X b w') : DE X e (eu2 g v w') := let ⟨_, h1, h2⟩ := r.ex; deu_2 h1 h h' h2
theorem CR.toT (r : CR X a b e g) (h : DU X a w) (h' : DU X b w') : DT X e (tV (ue2 g w w')) := let ⟨_, h1, _, h3⟩ := r.ex; dt_cmpU h1 h h' h3
theorem CR.toTE (r : CR X a b e g) (h : DE X a v) (h' : DE X b v') : DT X e (tV (e2 g v v')) := let ⟨_, h1, _, h3⟩ := r.ex; dt_cmp h1 h h' h3
theorem CR.toTEU (r : CR X a b e g) (h : DE X a v) (h' : DU X b w') : DT X e (tV (eu2 g v w')) := let ⟨_, h1, _, h3⟩ := r.ex; dt_cmpEU h1 h h' h3
end

/-! ### shapes -/
def asI (t : T) (k : Int → Prop) : Prop := match t with
  | .dat (.int i) => k i
  | _ => False
def asB (t : T) (k : Bool → Prop) : Prop := match t with
  | .dat (.bool i) => k i
  | _ => False
def asD (t : T) (k : PyData → Prop) : Prop := match t.data? with
  | some x => k x
  | none => False
def T.items : T → Option (List T)
  | .dat (.list xs) => some (xs.map T.dat)
  | .dat (.tuple xs) => some (xs.map T.dat)
  | .scr ns => some (ns.map fun i => T.dat (.int i))
  | .nd .lst ts => some ts
  | _ => none
def A.items : A → Option (List A)
  | .dat (.list xs) => some (xs.map A.dat)
  | .dat (.tuple xs) => some (xs.map A.dat)
  | .scr ns => some (ns.map fun i => A.dat (.int i))
  | .nd _ _ .lst ts => some ts
  | _ => none
theorem A.er_items (a : A) : a.er.items = a.items.map A.ers := by
  cases a with
  | dat x => cases x <;> first | rfl | (show some _ = some _; rw [A.ers_eq, List.map_map]; rfl)
  | scr ns => show some _ = some _; rw [A.ers_eq, List.map_map]; rfl
  | nd a dx k ts => cases k <;> rfl
def asIt (t : T) (k : List T → Prop) : Prop := match t.items with
  | some xs => k xs
  | none => False
section
variable {Z : Px} {Fz H : Hp}
theorem asI_of {a : A} {v : V} {k : Int → Prop} (h : asI a.er k) (o : Own Z Fz H a v) : ∃ i, a = .dat (.int i) ∧ v = .int i ∧ k i := by
  cases a with
  | dat x =>
    cases x with
    | int i => cases (show Dv Z.K Fz v (.int i) from o); exact ⟨i, rfl, rfl, h⟩
    | _ => exact h.elim
  | scr ns => exact h.elim
  | nd a dx kd ts => exact h.elim
theorem asB_of {a : A} {v : V} {k : Bool → Prop} (h : asB a.er k) (o : Own Z Fz H a v) : ∃ i, a = .dat (.bool i) ∧ v = .bl i ∧ k i := by
  cases a with
  | dat x =>
    cases x with
    | bool i => cases (show Dv Z.K Fz v (.bool i) from o); exact ⟨i, rfl, rfl, h⟩
    | _ => exact h.elim
  | scr ns => exact h.elim
  | nd a dx kd ts => exact h.elim
theorem asD_of {a : A} {v : V} {k : PyData → Prop} (h : asD a.er k) (ex : Ex Fz H) (o : Own Z Fz H a v) : ∃ x, a.er.data? = some x ∧ Dv Z.K H v x ∧ k x := by
  unfold asD at h
  cases e : a.er.data? with
  | none => rw [e] at h; exact h.elim
  | some x =>
    rw [e] at h
    exact ⟨x, rfl, own_data ex a v x (fun _ _ _ q => q) o e, h⟩
theorem dvs_owns (H : Hp) : ∀ {xs : List PyData} {vs : List V}, Dvs Z.K Fz vs xs → Owns Z Fz H (xs.map A.dat) vs := fun h => Owns.dats.mpr h
theorem ints_owns : ∀ ns : List Int, Owns Z Fz H (ns.map fun i => A.dat (.int i)) (ns.map V.int)
  | [] => rfl
  | n :: ns => ⟨_, _, rfl, .int n, ints_owns ns⟩
theorem items_of {a : A} {v : V} {as : List A} (h : a.items = some as) (ex : Ex Fz H) (o : Own Z Fz H a v) : ∃ p vs, v = .ref p ∧ (SqL Z.K H p vs ∨ SqT Z.K H p vs) ∧ Owns Z Fz H as vs := by
  cases a with
  | dat x =>
    cases x with
    | list xs =>
      cases h
      cases (show Dv Z.K Fz v (.list xs) from o) with
      | lst h1 h2 => exact ⟨_, _, rfl, .inl (.inl (.inl (ex _ _ h1))), dvs_owns H h2⟩
    | tuple xs =>
      cases h
      cases (show Dv Z.K Fz v (.tuple xs) from o) with
      | tup h1 h2 => exact ⟨_, _, rfl, .inr (ex_t ex h1), dvs_owns H h2⟩
    | _ => cases h
  | scr ns =>
    cases h
    obtain ⟨p, rfl, q⟩ := (show ∃ a, v = .ref a ∧ SqL Z.K Fz a (ns.map V.int) from o)
    exact ⟨p, _, rfl, .inl (ex_l ex q), ints_owns ns⟩
  | nd a dx k ts =>
    cases k with
    | lst =>
      cases h
      obtain ⟨rfl, vs, n, os⟩ := o
      exact ⟨a, vs, rfl, .inl (.inl (.inl n)), os⟩
    | dic d ks => cases h
    | ins C fs => cases h
theorem asIt_of {a : A} {k : List T → Prop} (h : asIt a.er k) : ∃ as, a.items = some as ∧ k (A.ers as) := by
  unfold asIt at h
  rw [A.er_items] at h
  cases e : a.items with
  | none => rw [e] at h; exact h.elim
  | some as => rw [e] at h; exact ⟨as, rfl, h⟩
end

/-! ### whole numbers -/
def fI0 (g : Int → Int → PyData) : F2 := fun x y Q => asI x fun i => asI y fun j => Q (.dat (g i j))
def fI (C : Int → Int → Prop) (g : Int → Int → PyData) : F2 := fun x y Q => asI x fun i => asI y fun j => C i j ∧ Q (.dat (g i j))
def fI1 (g : Int → PyData) : F1 := fun x Q => asI x fun i => Q (.dat (g i))
section
variable {Z : Px}
theorem op2_I0 {g : Int → Int → V} {gd : Int → Int → PyData} (hg : ∀ i j K H, Dv K H (g i j) (gd i j)) : Op2 Z (rI0 g) (fI0 gd) := by
  intro σ H Q Fz ev F a b v u R S oa ob h k
  obtain ⟨i, rfl, rfl, h⟩ := asI_of h oa
  obtain ⟨j, rfl, rfl, h⟩ := asI_of h ob
  exact ⟨i, j, rfl, rfl, k _ H Fz (.dat (gd i j)) h (Ex.refl _) (Ex.refl _) (S.pushD (hg i j _ _))⟩
theorem op2_I {C : Int → Int → Prop} {g : Int → Int → V} {gd : Int → Int → PyData} (hg : ∀ i j K H, Dv K H (g i j) (gd i j)) : Op2 Z (rI C g) (fI C gd) := by
  intro σ H Q Fz ev F a b v u R S oa ob h k
  obtain ⟨i, rfl, rfl, h⟩ := asI_of h oa
  obtain ⟨j, rfl, rfl, h⟩ := asI_of h ob
  exact ⟨i, j, rfl, rfl, h.1, k _ H Fz (.dat (gd i j)) h.2 (Ex.refl _) (Ex.refl _) (S.pushD (hg i j _ _))⟩
theorem op1_I {g : Int → V} {gd : Int → PyData} (hg : ∀ i K H, Dv K H (g i) (gd i)) : Op1 Z (rU g) (fI1 gd) := by
  intro σ H Q Fz ev F a v R S oa h k
  obtain ⟨i, rfl, rfl, h⟩ := asI_of h oa
  exact ⟨i, rfl, k _ H Fz (.dat (gd i)) h (Ex.refl _) (Ex.refl _) (S.pushD (hg i _ _))⟩
end
def CPowB (i j : Int) : Prop := 0 ≤ j ∧ (Builtin.Int.intBits i : Int) * j ≤ 2 ^ 27
section
variable {X : Cx} {a b : Expr} {pos : Pos}
theorem op_powB : OpR X (binaryOp .Pow) (rI CPowB fun i j => .int (i ^ j.toNat)) := opI fun _ _ _ _ _ _ _ hc q => pow_int hc.1 hc.2 q
theorem b_add : BR X a b (.BinOp a .Add b pos) (fI0 fun i j => .int (i + j)) := ⟨_, op2_I0 fun _ _ _ _ => .int _, fun _ _ g g' => pe_op op_add g g'⟩
theorem b_sub : BR X a b (.BinOp a .Sub b pos) (fI0 fun i j => .int (i - j)) := ⟨_, op2_I0 fun _ _ _ _ => .int _, fun _ _ g g' => pe_op op_sub g g'⟩
theorem b_mul : BR X a b (.BinOp a .Mult b pos) (fI CMul fun i j => .int (i * j)) := ⟨_, op2_I fun _ _ _ _ => .int _, fun _ _ g g' => pe_op op_mul g g'⟩
theorem b_fdiv : BR X a b (.BinOp a .FloorDiv b pos) (fI CDiv fun i j => .int (i / j)) := ⟨_, op2_I fun _ _ _ _ => .int _, fun _ _ g g' => pe_op op_fdiv g g'⟩
theorem b_mod : BR X a b (.BinOp a .Mod b pos) (fI (fun _ j => 0 < j) fun i j => .int (i % j)) := ⟨_, op2_I fun _ _ _ _ => .int _, fun _ _ g g' => pe_op op_mod g g'⟩
theorem b_pow : BR X a b (.BinOp a .Pow b pos) (fI CPowB fun i j => .int (i ^ j.toNat)) := ⟨_, op2_I fun _ _ _ _ => .int _, fun _ _ g g' => pe_op op_powB g g'⟩
theorem u_neg : UR X a (.UnaryOp .USub a pos) (fI1 fun i => .int (-i)) := ⟨_, op1_I fun _ _ _ => .int _, fun _ g => pe_un un_neg g⟩
theorem c_lt : CR X a b (.Compare a [.Lt] [b] pos) (fI0 fun i j => .bool (decide (i < j))) := ⟨_, op2_I0 fun _ _ _ _ => .bl _, fun _ _ g g' => pe_cmpR op_lt g g' (nomark _), fun _ _ g g' => pt_cmpR op_lt g g' (nomark _)⟩
theorem c_le : CR X a b (.Compare a [.LtE] [b] pos) (fI0 fun i j => .bool (decide (i ≤ j))) := ⟨_, op2_I0 fun _ _ _ _ => .bl _, fun _ _ g g' => pe_cmpR op_le g g' (nomark _), fun _ _ g g' => pt_cmpR op_le g g' (nomark _)⟩
theorem c_gt : CR X a b (.Compare a [.Gt] [b] pos) (fI0 fun i j => .bool (decide (j < i))) := ⟨_, op2_I0 fun _ _ _ _ => .bl _, fun _ _ g g' => pe_cmpR op_gt g g' (nomark _), fun _ _ g g' => pt_cmpR op_gt g g' (nomark _)⟩
theorem c_ge : CR X a b (.Compare a [.GtE] [b] pos) (fI0 fun i j => .bool (decide (j ≤ i))) := ⟨_, op2_I0 fun _ _ _ _ => .bl _, fun _ _ g g' => pe_cmpR op_ge g g' (nomark _), fun _ _ g g' => pt_cmpR op_ge g g' (nomark _)⟩
end

/-! ### == -/
def fEq : F2 := fun x y Q => asD x fun a => asD y fun b => SeqAt.shaped a = true ∧ SeqAt.shaped b = true ∧ Q (.dat (.bool (PyData.eqv a b)))
def fNe : F2 := fun x y Q => asD x fun a => asD y fun b => SeqAt.shaped a = true ∧ SeqAt.shaped b = true ∧ Q (.dat (.bool (!PyData.eqv a b)))
section
variable {Z : Px} {X : Cx} {a b : Expr} {pos : Pos}
theorem op2_eq : Op2 Z (rEqD Z.K) fEq := by
  intro σ H Q Fz ev F a b v u R S oa ob h k
  obtain ⟨x, _, da, h⟩ := asD_of h S.ex oa
  obtain ⟨y, _, db, h1, h2, h3⟩ := asD_of h S.ex ob
  exact ⟨x, y, Dv.dp _ _ da, Dv.dp _ _ db, h1, h2, k _ H Fz (.dat _) h3 (Ex.refl _) (Ex.refl _) (S.pushD (.bl _))⟩
theorem op2_ne : Op2 Z (rNeD Z.K) fNe := by
  intro σ H Q Fz ev F a b v u R S oa ob h k
  obtain ⟨x, _, da, h⟩ := asD_of h S.ex oa
  obtain ⟨y, _, db, h1, h2, h3⟩ := asD_of h S.ex ob
  exact ⟨x, y, Dv.dp _ _ da, Dv.dp _ _ db, h1, h2, k _ H Fz (.dat _) h3 (Ex.refl _) (Ex.refl _) (S.pushD (.bl _))⟩
theorem c_eq (hu : X.A.units + 64 < cLine) : CR X a b (.Compare a [.Eq] [b] pos) fEq := ⟨_, op2_eq, fun _ _ g g' => pe_cmpR (op_eqD hu) g g' (nomark _), fun _ _ g g' => pt_cmpR (op_eqD hu) g g' (nomark _)⟩
theorem c_ne (hu : X.A.units + 64 < cLine) : CR X a b (.Compare a [.NotEq] [b] pos) fNe := ⟨_, op2_ne, fun _ _ g g' => pe_cmpR (op_neD hu) g g' (nomark _), fun _ _ g g' => pt_cmpR (op_neD hu) g g' (nomark _)⟩
end

/-! ### len, tuple, list -/
def fLenS : F1 := fun x Q => asIt x fun xs => Q (.dat (.int xs.length))
section
variable {Z : Px} {X : Cx} {a b : Expr} {pos p : Pos}
/-- a call of a builtin with one argument -/
theorem call1' {r : List V → Hp → VK → Prop} {t : TE} : tCB r (tCons t tNil) = (fun σ H Q => t σ H fun v H1 => (fun v H Q => r [v] H Q) v H1 Q) := rfl
theorem op1_len : Op1 Z (fun v H Q => ∃ x n, [v] = [x] ∧ LenV Z.K x H n ∧ Q (.int n) H) fLenS := by
  intro σ H Q Fz ev F a v R S oa h k
  obtain ⟨as, e, h⟩ := asIt_of h
  obtain ⟨p, vs, rfl, hs, os⟩ := items_of e S.ex oa
  have hl : (A.ers as).length = vs.length := by rw [A.ers_eq, List.length_map, os.length]
  refine ⟨.ref p, vs.length, rfl, ?_, ?_⟩
  · rcases hs with h1 | h1
    · exact .inl ⟨vs, h1, rfl⟩
    · exact .inr ⟨vs, h1, rfl⟩
  · exact k _ H Fz (.dat (.int vs.length)) (by rw [← hl]; exact h) (Ex.refl _) (Ex.refl _) (S.pushD (.int _))
/-- a builtin of one, of two arguments -/
theorem ub {r : List V → Hp → VK → Prop} {f : F1} {x : Str} {id : String} (hc : CallR X (.builtin id) r) (op : Op1 X.px (fun v H Q => r [v] H Q) f) (hm : X.mg x = none) (hv : bootBuiltins x = some (.builtin id)) (hg : Gl X x) (hn : x ≠ "__name__" := by decide) (hdb : (x == ("__debug__" : Str)) = false := by decide)
    (na : starEach [a] X.env = (false, eval a X.env) :: starEach [] X.env := by rfl) (hpl : (backTo pos (starEach [] X.env)).any (·.1) = false := by rfl) : UR X a (.Call (.Name x p) [a] [] pos) f :=
  ⟨fun v H Q => r [v] H Q, op, fun t g => pe_callB hc hg hm hv (pa_cons g pa_nil na) hn hdb na hpl⟩
theorem ut {r : List V → Hp → VK → Prop} {f : F1} {x : Str} {T : String} (hc : CallR X (.type T) r) (op : Op1 X.px (fun v H Q => r [v] H Q) f) (hm : X.mg x = none) (hv : bootBuiltins x = some (.type T)) (hg : Gl X x) (hn : x ≠ "__name__" := by decide) (hdb : (x == ("__debug__" : Str)) = false := by decide)
    (na : starEach [a] X.env = (false, eval a X.env) :: starEach [] X.env := by rfl) (hpl : (backTo pos (starEach [] X.env)).any (·.1) = false := by rfl) : UR X a (.Call (.Name x p) [a] [] pos) f :=
  ⟨fun v H Q => r [v] H Q, op, fun t g => pe_callTy hc hg hm hv (pa_cons g pa_nil na) hn hdb na hpl⟩
theorem bb {r : List V → Hp → VK → Prop} {f : F2} {x : Str} {id : String} (hc : CallR X (.builtin id) r) (op : Op2 X.px (fun v u H Q => r [v, u] H Q) f) (hm : X.mg x = none) (hv : bootBuiltins x = some (.builtin id)) (hg : Gl X x) (hn : x ≠ "__name__" := by decide) (hdb : (x == ("__debug__" : Str)) = false := by decide)
    (na : starEach [a, b] X.env = (false, eval a X.env) :: starEach [b] X.env := by rfl) (nb : starEach [b] X.env = (false, eval b X.env) :: starEach [] X.env := by rfl) (hpl : (backTo pos (starEach [b] X.env)).any (·.1) = false := by rfl) : BR X a b (.Call (.Name x p) [a, b] [] pos) f :=
  ⟨fun v u H Q => r [v, u] H Q, op, fun t t' g g' => pe_callB hc hg hm hv (pa_cons g (pa_cons g' pa_nil nb) na) hn hdb na hpl⟩
theorem u_len (hm : X.mg "len" = none) (hg : Gl X "len") (na : starEach [a] X.env = (false, eval a X.env) :: starEach [] X.env := by rfl) : UR X a (.Call (.Name "len" p) [a] [] pos) fLenS :=
  ub call_len op1_len hm boot_len hg (na := na)
end
end DL

set_option maxRecDepth 100000
namespace DL
open PySem PySem.Spec PyProof.Rows L2
open Evl (Ex Ex.refl Ex.trans Ex.new Ex.mut ex_l ex_t ex_rd fresh_back)

/-! ### sequences of data -/
def T.plain? : T → Option PyData
  | .dat x => some x
  | _ => none
def T.pls : List T → Option (List PyData)
  | [] => some []
  | t :: ts => match t.plain? with
    | some x => match T.pls ts with
      | some xs => some (x :: xs)
      | none => none
    | none => none
/-- a list, a tuple, any sequence, of data -/
def T.lsD : T → Option (List PyData)
  | .dat (.list xs) => some xs
  | .nd .lst ts => T.pls ts
  | _ => none
def T.tpD : T → Option (List PyData)
  | .dat (.tuple xs) => some xs
  | _ => none
def T.sqD : T → Option (List PyData)
  | .dat (.list xs) => some xs
  | .dat (.tuple xs) => some xs
  | .scr ns => some (ns.map PyData.int)
  | .nd .lst ts => T.pls ts
  | _ => none
def asO {α : Type} (o : Option α) (k : α → Prop) : Prop := match o with
  | some x => k x
  | none => False
theorem asO_of {α : Type} {o : Option α} {k : α → Prop} (h : asO o k) : ∃ x, o = some x ∧ k x := by
  cases o with
  | none => exact h.elim
  | some x => exact ⟨x, rfl, h⟩
theorem T.pls_dat : ∀ xs : List PyData, T.pls (xs.map T.dat) = some xs
  | [] => rfl
  | x :: xs => by
    show (match T.pls (xs.map T.dat) with | some xs => some (x :: xs) | none => none) = _
    rw [T.pls_dat xs]
theorem er_dat {a : A} {x : PyData} (h : a.er = .dat x) : a = .dat x := by
  cases a with
  | dat y => cases h; rfl
  | scr ns => cases h
  | nd a dx k ts => cases h
theorem pls_of : ∀ {ts : List A} {xs : List PyData}, T.pls (A.ers ts) = some xs → ts = xs.map A.dat
  | [], xs, h => by cases h; rfl
  | t :: ts, xs, h => by
    have h' : (match t.er.plain? with | some x => (match T.pls (A.ers ts) with | some xs => some (x :: xs) | none => none) | none => none) = some xs := h
    cases e1 : t.er.plain? with
    | none => rw [e1] at h'; cases h'
    | some x =>
      rw [e1] at h'
      cases e2 : T.pls (A.ers ts) with
      | none => rw [e2] at h'; cases h'
      | some ys =>
        rw [e2] at h'
        cases h'
        have e3 : t.er = .dat x := by
          cases hh : t.er with
          | dat y => rw [hh] at e1; cases e1; rfl
          | scr ns => rw [hh] at e1; cases e1
          | nd k ts => rw [hh] at e1; cases e1
        rw [er_dat e3, pls_of e2]
        rfl
theorem ers_dats : ∀ xs : List PyData, A.ers (xs.map A.dat) = xs.map T.dat
  | [] => rfl
  | x :: xs => by
    show T.dat x :: A.ers (xs.map A.dat) = _
    rw [ers_dats xs]; rfl
theorem adss_dats : ∀ xs : List PyData, A.adss (xs.map A.dat) = []
  | [] => rfl
  | x :: xs => by
    show [] ++ A.adss (xs.map A.dat) = []
    rw [adss_dats xs]; rfl
abbrev lstT (xs : List PyData) : T := .nd .lst (xs.map T.dat)
section
variable {Z : Px} {Fz H : Hp} {σ : L2.St} {ev : AEn} {F : Fr}
theorem Dvs.length {K : PySem.W.Frag} : ∀ {vs : List V} {xs : List PyData}, Dvs K Fz vs xs → vs.length = xs.length
  | _, [], h => by cases h; rfl
  | _, x :: xs, h => by
    cases h with
    | cons h1 h2 => rw [List.length_cons, List.length_cons, Dvs.length h2]
theorem Dvs.append {K : PySem.W.Frag} : ∀ {vs us : List V} {xs ys : List PyData}, Dvs K Fz vs xs → Dvs K Fz us ys → Dvs K Fz (vs ++ us) (xs ++ ys)
  | _, _, [], _, h, h2 => by cases h; exact h2
  | _, _, x :: xs, _, h, h2 => by
    cases h with
    | cons h1 h3 => exact .cons h1 (Dvs.append h3 h2)
theorem Dvs.at {K : PySem.W.Frag} : ∀ {vs : List V} {xs : List PyData} {i : Nat} {x : PyData}, Dvs K Fz vs xs → xs[i]? = some x → ∃ v, vs[i]? = some v ∧ Dv K Fz v x
  | _, [], _, _, _, e => by cases e
  | _, y :: xs, 0, x, h, e => by
    cases h with
    | cons h1 h3 => cases e; exact ⟨_, rfl, h1⟩
  | _, y :: xs, i + 1, x, h, e => by
    cases h with
    | cons h1 h3 =>
      obtain ⟨w, g1, g2⟩ := Dvs.at h3 (by simpa using e)
      exact ⟨w, by simpa using g1, g2⟩
theorem Dvs.take {K : PySem.W.Frag} : ∀ {vs : List V} {xs : List PyData} (n : Nat), Dvs K Fz vs xs → Dvs K Fz (vs.take n) (xs.take n)
  | _, _, 0, _ => .nil
  | _, [], _ + 1, h => by cases h; exact .nil
  | _, x :: xs, n + 1, h => by
    cases h with
    | cons h1 h3 => exact .cons h1 (Dvs.take n h3)
theorem Dvs.drop {K : PySem.W.Frag} : ∀ {vs : List V} {xs : List PyData} (n : Nat), Dvs K Fz vs xs → Dvs K Fz (vs.drop n) (xs.drop n)
  | _, _, 0, h => h
  | _, [], _ + 1, h => by cases h; exact .nil
  | _, x :: xs, n + 1, h => by
    cases h with
    | cons h1 h3 => exact Dvs.drop n h3
theorem Dvs.picks {K : PySem.W.Frag} {vs : List V} {xs : List PyData} (h : Dvs K Fz vs xs) : ∀ (is : List Nat), Dvs K Fz (is.filterMap (vs[·]?)) (is.filterMap (xs[·]?))
  | [] => .nil
  | i :: is => by
    rw [List.filterMap_cons, List.filterMap_cons]
    have hl := h.length
    cases e : xs[i]? with
    | none =>
      rw [show vs[i]? = none from List.getElem?_eq_none (by rw [hl]; exact List.getElem?_eq_none_iff.mp e)]
      exact Dvs.picks h is
    | some x =>
      obtain ⟨v, g1, g2⟩ := h.at e
      rw [g1]
      exact .cons g2 (Dvs.picks h is)
theorem Dvs.reverse {K : PySem.W.Frag} : ∀ {vs : List V} {xs : List PyData}, Dvs K Fz vs xs → Dvs K Fz vs.reverse xs.reverse
  | _, [], h => by cases h; exact .nil
  | _, x :: xs, h => by
    cases h with
    | cons h1 h3 =>
      rw [List.reverse_cons, List.reverse_cons]
      exact Dvs.append (Dvs.reverse h3) (.cons h1 .nil)
theorem Dvs.rep {K : PySem.W.Frag} {vs : List V} {xs : List PyData} (h : Dvs K Fz vs xs) : ∀ n : Nat, Dvs K Fz (List.replicate n vs).flatten (List.replicate n xs).flatten
  | 0 => .nil
  | n + 1 => by
    rw [List.replicate_succ, List.replicate_succ]
    exact Dvs.append h (Dvs.rep h n)
theorem dvs_ints {K : PySem.W.Frag} : ∀ ns : List Int, Dvs K Fz (ns.map V.int) (ns.map PyData.int)
  | [] => .nil
  | n :: ns => .cons (.int n) (dvs_ints ns)
theorem lsD_of {a : A} {v : V} {xs : List PyData} (h : a.er.lsD = some xs) (ex : Ex Fz H) (o : Own Z Fz H a v) : ∃ p vs, v = .ref p ∧ H p = some (.lst vs) ∧ Dvs Z.K Fz vs xs := by
  cases a with
  | dat x =>
    cases x with
    | list ys =>
      cases h
      cases (show Dv Z.K Fz v (.list xs) from o) with
      | lst h1 h2 => exact ⟨_, _, rfl, ex _ _ h1, h2⟩
    | _ => cases h
  | scr ns => cases h
  | nd a dx k ts =>
    cases k with
    | lst =>
      obtain ⟨rfl, vs, n, os⟩ := o
      have e : ts = xs.map A.dat := pls_of h
      subst e
      exact ⟨a, vs, rfl, n, Owns.dats.mp os⟩
    | dic d ks => cases h
    | ins C fs => cases h
theorem sqD_of {a : A} {v : V} {xs : List PyData} (h : a.er.sqD = some xs) (ex : Ex Fz H) (o : Own Z Fz H a v) : ∃ p vs, v = .ref p ∧ ((SqL Z.K H p vs ∧ ∀ ys, a.er ≠ .dat (.tuple ys)) ∨ (SqT Z.K H p vs ∧ SqT Z.K Fz p vs ∧ a.er = .dat (.tuple xs))) ∧ Dvs Z.K Fz vs xs := by
  cases a with
  | dat x =>
    cases x with
    | list ys =>
      cases h
      cases (show Dv Z.K Fz v (.list xs) from o) with
      | lst h1 h2 => exact ⟨_, _, rfl, .inl ⟨.inl (.inl (ex _ _ h1)), fun _ e => nomatch e⟩, h2⟩
    | tuple ys =>
      cases h
      cases (show Dv Z.K Fz v (.tuple xs) from o) with
      | tup h1 h2 => exact ⟨_, _, rfl, .inr ⟨ex_t ex h1, h1, rfl⟩, h2⟩
    | _ => cases h
  | scr ns =>
    cases h
    obtain ⟨p, rfl, q⟩ := (show ∃ a, v = .ref a ∧ SqL Z.K Fz a (ns.map V.int) from o)
    exact ⟨p, _, rfl, .inl ⟨ex_l ex q, fun _ e => nomatch e⟩, dvs_ints ns⟩
  | nd a dx k ts =>
    cases k with
    | lst =>
      obtain ⟨rfl, vs, n, os⟩ := o
      have e : ts = xs.map A.dat := pls_of h
      subst e
      exact ⟨a, vs, rfl, .inl ⟨.inl (.inl n), fun _ e => nomatch e⟩, Owns.dats.mp os⟩
    | dic d ks => cases h
    | ins C fs => cases h
theorem tpD_of {a : A} {v : V} {xs : List PyData} (h : a.er.tpD = some xs) (o : Own Z Fz H a v) : ∃ p vs, v = .ref p ∧ SqT Z.K Fz p vs ∧ Dvs Z.K Fz vs xs := by
  cases a with
  | dat x =>
    cases x with
    | tuple ys =>
      cases h
      cases (show Dv Z.K Fz v (.tuple xs) from o) with
      | tup h1 h2 => exact ⟨_, _, rfl, h1, h2⟩
    | _ => cases h
  | scr ns => cases h
  | nd a dx k ts => cases h
/-- a new list, a new tuple of data -/
theorem SA.newL (S : SA Z Fz H σ ev F) {p : Addr} (hp : H p = none) {vs : List V} {xs : List PyData} (d : Dvs Z.K Fz vs xs) : Ex H (upd H p (.lst vs)) ∧ SA Z Fz (upd H p (.lst vs)) σ ev (F.add (.of Z (.nd p 0 .lst (xs.map A.dat)) (.ref p))) :=
  ⟨Ex.new hp, S.pushN (k := .lst) (vs := vs) hp (show upd H p (.lst vs) p = some (.lst vs) from upd_same) (Owns.dats.mpr d) (adss_dats xs)⟩
theorem SA.newT (S : SA Z Fz H σ ev F) {p : Addr} (hp : H p = none) {vs : List V} {xs : List PyData} (d : Dvs Z.K Fz vs xs) : Ex Fz (upd Fz p (.tup vs)) ∧ Ex H (upd H p (.tup vs)) ∧ SA Z (upd Fz p (.tup vs)) (upd H p (.tup vs)) σ ev (F.add (.of Z (.dat (.tuple xs)) (.ref p))) := by
  obtain ⟨e1, e2, S'⟩ := S.new (o := .tup vs) hp
  exact ⟨e1, e2, S'.pushD (.tup (.inl (.inl upd_same)) (dps_mono e1 _ _ d))⟩
theorem er_lstT (p dx : Addr) (xs : List PyData) : (A.nd p dx .lst (xs.map A.dat)).er = lstT xs := by
  show T.nd .lst (A.ers _) = _
  rw [ers_dats]
end

/-! ### operations on them -/
theorem op_or {X : Cx} {f : Value → Value → Sem Value} {r r' : R2} (h : OpR X f r) (h' : OpR X f r') : OpR X f (fun x y H Q => r x y H Q ∨ r' x y H Q) := fun pins s σ H x y v u Q I rx ry q => q.elim (h pins s σ H x y v u Q I rx ry) (h' pins s σ H x y v u Q I rx ry)
theorem cr_or {X : Cx} {f : Value} {r r' : List V → Hp → VK → Prop} (h : CallR X f r) (h' : CallR X f r') : CallR X f (fun x H Q => r x H Q ∨ r' x H Q) := fun pins s σ H x u Q I rx q => q.elim (h pins s σ H x u Q I rx) (h' pins s σ H x u Q I rx)
def fAdd : F2 := fun x y Q => match x, y with
  | .dat (.int i), .dat (.int j) => Q (.dat (.int (i + j)))
  | .dat (.tuple a), .dat (.tuple b) => a.length + b.length ≤ sizeLine ∧ Q (.dat (.tuple (a ++ b)))
  | x, y => asO x.lsD fun a => asO y.lsD fun b => a.length + b.length ≤ sizeLine ∧ Q (lstT (a ++ b))
theorem fAdd_cases {x y : T} {Q : T → Prop} (h : fAdd x y Q) : (∃ i j, x = .dat (.int i) ∧ y = .dat (.int j) ∧ Q (.dat (.int (i + j)))) ∨
    (∃ a b, x = .dat (.tuple a) ∧ y = .dat (.tuple b) ∧ a.length + b.length ≤ sizeLine ∧ Q (.dat (.tuple (a ++ b)))) ∨ ∃ a b, x.lsD = some a ∧ y.lsD = some b ∧ a.length + b.length ≤ sizeLine ∧ Q (lstT (a ++ b)) := by
  unfold fAdd at h
  split at h
  · exact .inl ⟨_, _, rfl, rfl, h⟩
  · exact .inr (.inl ⟨_, _, rfl, rfl, h⟩)
  · obtain ⟨a, e1, h⟩ := asO_of h
    obtain ⟨b, e2, h⟩ := asO_of h
    exact .inr (.inr ⟨a, b, e1, e2, h⟩)
def fMul : F2 := fun x y Q => asI y fun j => match x with
  | .dat (.int i) => CMul i j ∧ Q (.dat (.int (i * j)))
  | x => asO x.lsD fun a => -(2 ^ 63) ≤ j ∧ j < 2 ^ 63 ∧ a.length * j.toNat ≤ sizeLine ∧ Q (lstT (List.replicate j.toNat a).flatten)
section
variable {Z : Px} {X : Cx} {a b : Expr} {pos p : Pos}
theorem op2_add : Op2 Z (fun x y H Q => rI0 (fun i j => .int (i + j)) x y H Q ∨ rCatA Z.K x y H Q ∨ rCat x y H Q) fAdd := by
  intro σ H Q Fz ev F a b v u R S oa ob h k
  rcases fAdd_cases h with ⟨i, j, e1, e2, h⟩ | ⟨xs, ys, e1, e2, hl, h⟩ | ⟨xs, ys, e1, e2, hl, h⟩
  · have e1 := er_dat e1
    have e2 := er_dat e2
    subst e1 e2
    cases (show Dv Z.K Fz v (.int i) from oa)
    cases (show Dv Z.K Fz u (.int j) from ob)
    exact .inl ⟨i, j, rfl, rfl, k _ H Fz (.dat (.int (i + j))) h (Ex.refl _) (Ex.refl _) (S.pushD (.int _))⟩
  · obtain ⟨p, vs, rfl, q1, d1⟩ := tpD_of (show a.er.tpD = some xs by rw [e1]; rfl) oa
    obtain ⟨q, us, rfl, q2, d2⟩ := tpD_of (show b.er.tpD = some ys by rw [e2]; rfl) ob
    refine .inr (.inl ⟨p, q, vs, us, rfl, rfl, ex_t S.ex q1, ex_t S.ex q2, by rw [d1.length, d2.length]; exact hl, fun e => ?_, fun _ e => ?_, fun _ _ l hf => ?_⟩)
    · subst e
      cases d1
      exact k _ H Fz (.dat (.tuple ([] ++ ys))) h (Ex.refl _) (Ex.refl _) (S.pushD (.tup q2 d2))
    · subst e
      cases d2
      exact k _ H Fz (.dat (.tuple (xs ++ []))) h (Ex.refl _) (Ex.refl _) (S.pushD (by rw [List.append_nil]; exact .tup q1 d1))
    · obtain ⟨g1, g2, g3⟩ := S.newT hf (d1.append d2)
      exact k _ _ _ (.dat (.tuple (xs ++ ys))) h g1 g2 g3
  · obtain ⟨p, vs, rfl, q1, d1⟩ := lsD_of e1 S.ex oa
    obtain ⟨q, us, rfl, q2, d2⟩ := lsD_of e2 S.ex ob
    refine .inr (.inr ⟨p, q, vs, us, rfl, rfl, q1, q2, by rw [d1.length, d2.length]; exact hl, fun l hf => ?_⟩)
    obtain ⟨g2, g3⟩ := S.newL hf (d1.append d2)
    exact k _ _ _ _ (by rw [er_lstT]; exact h) (Ex.refl _) g2 g3
theorem b_plus : BR X a b (.BinOp a .Add b pos) fAdd := ⟨_, op2_add, fun _ _ g g' => pe_op (op_or op_add (op_or op_catA op_cat)) g g'⟩
theorem op2_mul : Op2 Z (fun x y H Q => rI CMul (fun i j => .int (i * j)) x y H Q ∨ rRep x y H Q) fMul := by
  intro σ H Q Fz ev F a b v u R S oa ob h k
  obtain ⟨j, rfl, rfl, h⟩ := asI_of h ob
  have hl : ∀ xs, a.er.lsD = some xs → (-(2 ^ 63) ≤ j ∧ j < 2 ^ 63 ∧ xs.length * j.toNat ≤ sizeLine ∧ R (lstT (List.replicate j.toNat xs).flatten)) → rRep v (.int j) H Q := fun xs e1 h => by
    obtain ⟨p, vs, rfl, q1, d1⟩ := lsD_of e1 S.ex oa
    refine ⟨p, j, vs, rfl, rfl, q1, h.1, h.2.1, by rw [d1.length]; exact h.2.2.1, fun l hf => ?_⟩
    obtain ⟨g2, g3⟩ := S.newL hf (d1.rep j.toNat)
    exact k _ _ _ _ (by rw [er_lstT]; exact h.2.2.2) (Ex.refl _) g2 g3
  split at h
  · rename_i i e
    have e1 := er_dat e
    subst e1
    cases (show Dv Z.K Fz v (.int i) from oa)
    exact .inl ⟨i, j, rfl, rfl, h.1, k _ H Fz (.dat (.int (i * j))) h.2 (Ex.refl _) (Ex.refl _) (S.pushD (.int _))⟩
  · obtain ⟨xs, e1, h⟩ := asO_of h
    exact .inr (hl xs e1 h)
theorem b_times : BR X a b (.BinOp a .Mult b pos) fMul := ⟨_, op2_mul, fun _ _ g g' => pe_op (op_or op_mul op_rep) g g'⟩

/-! tuple(x), list(x) -/
def fTupS : F1 := fun x Q => asO x.sqD fun xs => Q (.dat (.tuple xs))
def fLstS : F1 := fun x Q => asO x.sqD fun xs => Q (lstT xs)
theorem op1_tup : Op1 Z (fun v H Q => ∃ p ys, [v] = [.ref p] ∧ ((SqL Z.K H p ys ∧ ∀ l, H l = none → Q (.ref l) (upd H l (.tup ys))) ∨ (SqT Z.K H p ys ∧ Q (.ref p) H))) fTupS := by
  intro σ H Q Fz ev F a v R S oa h k
  obtain ⟨xs, e, h⟩ := asO_of h
  obtain ⟨p, vs, rfl, hs, d⟩ := sqD_of e S.ex oa
  refine ⟨p, vs, rfl, ?_⟩
  rcases hs with ⟨h1, _⟩ | ⟨h1, h2, h3⟩
  · refine .inl ⟨h1, fun l hf => ?_⟩
    obtain ⟨g1, g2, g3⟩ := S.newT hf d
    exact k _ _ _ (.dat (.tuple xs)) h g1 g2 g3
  · exact .inr ⟨h1, k _ H Fz (.dat (.tuple xs)) h (Ex.refl _) (Ex.refl _) (S.pushD (.tup h2 d))⟩
theorem op1_lst : Op1 Z (fun v H Q => ∃ p ys, [v] = [.ref p] ∧ (SqL Z.K H p ys ∨ SqT Z.K H p ys) ∧ ∀ l, H l = none → Q (.ref l) (upd H l (.lst ys))) fLstS := by
  intro σ H Q Fz ev F a v R S oa h k
  obtain ⟨xs, e, h⟩ := asO_of h
  obtain ⟨p, vs, rfl, hs, d⟩ := sqD_of e S.ex oa
  refine ⟨p, vs, rfl, ?_, fun l hf => ?_⟩
  · rcases hs with ⟨h1, _⟩ | ⟨h1, h2, h3⟩
    · exact .inl h1
    · exact .inr h1
  · obtain ⟨g2, g3⟩ := S.newL hf d
    exact k _ _ _ _ (by rw [er_lstT]; exact h) (Ex.refl _) g2 g3
/-! int(x), abs(x), bool(x), min, max -/
def fInt : F1 := fun x Q => match x with
  | .dat (.int i) => Q (.dat (.int i))
  | .dat (.bool b) => Q (.dat (.int (if b then 1 else 0)))
  | _ => False
theorem op1_int : Op1 Z (fun v H Q => (∃ i, [v] = [.int i] ∧ Q (.int i) H) ∨ ∃ k, [v] = [.bl k] ∧ Q (.int (if k then 1 else 0)) H) fInt := by
  intro σ H Q Fz ev F a v R S oa h k
  unfold fInt at h
  split at h
  · rename_i i e
    have e := er_dat e
    subst e
    cases (show Dv Z.K Fz v (.int i) from oa)
    exact .inl ⟨i, rfl, k _ H Fz (.dat (.int i)) h (Ex.refl _) (Ex.refl _) (S.pushD (.int _))⟩
  · rename_i i e
    have e := er_dat e
    subst e
    cases (show Dv Z.K Fz v (.bool i) from oa)
    exact .inr ⟨i, rfl, k _ H Fz (.dat (.int _)) h (Ex.refl _) (Ex.refl _) (S.pushD (.int _))⟩
  · exact h.elim
theorem u_int (hm : X.mg "int" = none) (hg : Gl X "int") (na : starEach [a] X.env = (false, eval a X.env) :: starEach [] X.env := by rfl) : UR X a (.Call (.Name "int" p) [a] [] pos) fInt := ut call_int1 op1_int hm rfl hg (na := na)
theorem op1_abs : Op1 Z (fun v H Q => ∃ i, [v] = [.int i] ∧ Q (.int (if i < 0 then -i else i)) H) (fI1 fun i => .int (if i < 0 then -i else i)) := by
  intro σ H Q Fz ev F a v R S oa h k
  obtain ⟨i, rfl, rfl, h⟩ := asI_of h oa
  exact ⟨i, rfl, k _ H Fz (.dat (.int _)) h (Ex.refl _) (Ex.refl _) (S.pushD (.int _))⟩
theorem u_abs (hm : X.mg "abs" = none) (hg : Gl X "abs") (na : starEach [a] X.env = (false, eval a X.env) :: starEach [] X.env := by rfl) : UR X a (.Call (.Name "abs" p) [a] [] pos) (fI1 fun i => .int (if i < 0 then -i else i)) := ub call_abs op1_abs hm rfl hg (na := na)
theorem op2_mm {g : Int → Int → Int} : Op2 Z (fun v u H Q => ∃ i j, [v, u] = [.int i, .int j] ∧ Q (.int (g i j)) H) (fI0 fun i j => .int (g i j)) := by
  intro σ H Q Fz ev F a b v u R S oa ob h k
  obtain ⟨i, rfl, rfl, h⟩ := asI_of h oa
  obtain ⟨j, rfl, rfl, h⟩ := asI_of h ob
  exact ⟨i, j, rfl, k _ H Fz (.dat (.int (g i j))) h (Ex.refl _) (Ex.refl _) (S.pushD (.int _))⟩
theorem b_max (hc : X.calm = true) (hm : X.mg "max" = none) (hg : Gl X "max") (na : starEach [a, b] X.env = (false, eval a X.env) :: starEach [b] X.env := by rfl) (nb : starEach [b] X.env = (false, eval b X.env) :: starEach [] X.env := by rfl) (hpl : (backTo pos (starEach [b] X.env)).any (·.1) = false := by rfl) : BR X a b (.Call (.Name "max" p) [a, b] [] pos) (fI0 fun i j => .int (if j > i then j else i)) := bb (call_max2 hc) op2_mm hm rfl hg (na := na) (nb := nb) (hpl := hpl)
theorem b_min (hc : X.calm = true) (hm : X.mg "min" = none) (hg : Gl X "min") (na : starEach [a, b] X.env = (false, eval a X.env) :: starEach [b] X.env := by rfl) (nb : starEach [b] X.env = (false, eval b X.env) :: starEach [] X.env := by rfl) (hpl : (backTo pos (starEach [b] X.env)).any (·.1) = false := by rfl) : BR X a b (.Call (.Name "min" p) [a, b] [] pos) (fI0 fun i j => .int (if j < i then j else i)) := bb (call_min2 hc) op2_mm hm rfl hg (na := na) (nb := nb) (hpl := hpl)

/-! isinstance -/
inductive Ty where
  | int | bool | str | list | tuple | none
deriving DecidableEq
def Ty.name : Ty → String
  | .int => "int"
  | .bool => "bool"
  | .str => "str"
  | .list => "list"
  | .tuple => "tuple"
  | .none => "NoneType"
def Ty.le (a b : Ty) : Bool := match a, b with
  | .int, .int => true
  | .bool, .bool => true
  | .bool, .int => true
  | .str, .str => true
  | .list, .list => true
  | .tuple, .tuple => true
  | .none, .none => true
  | _, _ => false
theorem kitB_le : ∀ a b : Ty, kitB a.name b.name = some (a.le b) := by
  intro a b
  cases a <;> cases b <;> decide +kernel
def T.ty : T → Option Ty
  | .dat .none => some .none
  | .dat (.bool _) => some .bool
  | .dat (.int _) => some .int
  | .dat (.str _) => some .str
  | .dat (.list _) => some .list
  | .dat (.tuple _) => some .tuple
  | .dat (.dict _) => none
  | .scr _ => none
  | .nd .lst _ => some .list
  | .nd (.dic _ _) _ => none
  | .nd (.ins _ _) _ => none
def fIsi (c : Ty) : F1 := fun x Q => asO x.ty fun t => Q (.dat (.bool (t.le c)))
theorem ty_of {Z : Px} {Fz H : Hp} {a : A} {v : V} {t : Ty} (h : a.er.ty = some t) (ex : Ex Fz H) (o : Own Z Fz H a v) : TyX Z.K H v (.type t.name) := by
  cases a with
  | dat x =>
    cases x with
    | none => cases h; cases (show Dv Z.K Fz v .none from o); exact .base .non
    | bool b => cases h; cases (show Dv Z.K Fz v (.bool b) from o); exact .base (.bl b)
    | int b => cases h; cases (show Dv Z.K Fz v (.int b) from o); exact .base (.int b)
    | str b => cases h; cases (show Dv Z.K Fz v (.str b) from o); exact .base (.str b)
    | list xs =>
      cases h
      cases (show Dv Z.K Fz v (.list xs) from o) with
      | lst h1 h2 => exact .base (.lst (ex _ _ h1))
    | tuple xs =>
      cases h
      cases (show Dv Z.K Fz v (.tuple xs) from o) with
      | tup h1 h2 =>
        rcases ex_t ex h1 with (q | ⟨o, q⟩) | ⟨o, its, n, q1, q2, _⟩
        · exact .base (.tup q)
        · exact .fTuple q
        · exact .kTuple q1 q2
    | dict _ => cases h
  | scr ns => cases h
  | nd a dx k ts =>
    cases k with
    | lst =>
      cases h
      obtain ⟨rfl, vs, n, os⟩ := o
      exact .base (.lst n)
    | dic d ks => cases h
    | ins C fs => cases h
theorem op1_isi {c : Ty} : Op1 Z (fun v H Q => rIsi Z.K [v, .ty c.name] H Q) (fIsi c) := by
  intro σ H Q Fz ev F a v R S oa h k
  obtain ⟨t, e, h⟩ := asO_of h
  exact ⟨v, .ty c.name, .type t.name, .type c.name, _, rfl, .ty _, ty_of e S.ex oa, kit_ty (kitB_le t c), k _ H Fz (.dat (.bool _)) h (Ex.refl _) (Ex.refl _) (S.pushD (.bl _))⟩
theorem kitN : True := trivial
theorem u_isi (c : Ty) {x : Str} {q : Pos} (hm : X.mg "isinstance" = none) (hg : Gl X "isinstance") (hm2 : X.mg x = none) (hg2 : Gl X x) (hv : bootBuiltins x = some (.type c.name)) (hx : x ≠ "__name__") (hd : (x == ("__debug__" : Str)) = false)
    (na : starEach [a, .Name x q] X.env = (false, eval a X.env) :: starEach [.Name x q] X.env := by rfl) (hpl : (backTo pos (starEach [.Name x q] X.env)).any (·.1) = false := by rfl) : UR X a (.Call (.Name "isinstance" p) [a, .Name x q] [] pos) (fIsi c) :=
  ⟨fun v H Q => rIsi X.K [v, .ty c.name] H Q, op1_isi, fun t g => pe_callB call_isi hg hm (by rfl) (pa_cons g (pa_cons (pe_bltn (v := .ty c.name) hg2 hm2 hv rfl hx hd) pa_nil) na) (he := na) (hpl := hpl)⟩
end
end DL

set_option maxRecDepth 100000
namespace DL
open PySem PySem.Spec PyProof.Rows L2
open Evl (Ex Ex.refl Ex.trans Ex.new Ex.mut ex_l ex_t ex_rd fresh_back)

/-! ### dicts: keys -/
/-- the datum x is the key k of a dict whose keys are tuples (true), ints and texts (false) -/
def KeyOk (d : Bool) (x : PyData) (k : NestedKey) : Prop := k.data = x ∧ match d, k with
  | true, .tup _ => k.depth ≤ 8
  | false, .num _ => True
  | false, .text _ => True
  | _, _ => False
mutual
theorem nis {h : Heap} : ∀ (k : NestedKey) (u : Value) (as : List Addr), Reads h u k.data as → NestedIs h k u
  | .none, u, as, r => by cases (show Reads h u .none as from r); exact .none
  | .num i, u, as, r => by cases (show Reads h u (.int i) as from r); exact .int _ _
  | .text x, u, as, r => by cases (show Reads h u (.str x) as from r); exact .text _ _
  | .tup ks, u, as, r => by
    cases (show Reads h u (.tuple (NestedKey.datas ks)) as from r) with
    | tuple h1 h2 h3 h4 => exact .tup h1 h2 h3 (nisAll ks _ _ h4)
theorem nisAll {h : Heap} : ∀ (ks : List NestedKey) (us : List Value) (as : List Addr), ReadsAll h us (NestedKey.datas ks) as → NestedAll h ks us
  | [], us, as, r => by cases (show ReadsAll h us [] as from r); exact .nil
  | k :: ks, us, as, r => by
    cases (show ReadsAll h us (k.data :: NestedKey.datas ks) as from r) with
    | cons h1 h2 => exact .cons (nis k _ _ h1) (nisAll ks _ _ h2)
end
theorem find_nodup {α β : Type} [DecidableEq α] : ∀ {l : List (α × β)} {i : Nat} {k : α} {b : β}, l[i]? = some (k, b) → (l.map (·.1)).Nodup → (l.find? fun x => decide (x.1 = k)) = some (k, b)
  | [], i, k, b, h, _ => by cases h
  | (k', b') :: l, 0, k, b, h, _ => by cases h; simp
  | (k', b') :: l, i + 1, k, b, h, n => by
    have h' : l[i]? = some (k, b) := by simpa using h
    have n' := List.nodup_cons.mp n
    have m : k ∈ l.map (·.1) := List.mem_map.mpr ⟨(k, b), List.mem_of_getElem? h', rfl⟩
    have ne : k' ≠ k := fun e => n'.1 (by rw [e]; exact m)
    rw [List.find?_cons]
    simp only [ne, decide_false]
    exact find_nodup h' n'.2
theorem find_some_iff {α β : Type} [DecidableEq α] (l : List (α × β)) (k : α) : (l.find? fun x => decide (x.1 = k)).isSome = decide (k ∈ l.map (·.1)) := by
  induction l with
  | nil => rfl
  | cons x l ih =>
    rw [List.find?_cons]
    by_cases h : x.1 = k
    · simp [h]
    · have h' : k ≠ x.1 := fun e => h e.symm
      simp only [h, decide_false, ih, List.map_cons, List.mem_cons, h', false_or]
theorem Paired.at {α β : Type} {G : α → β → Prop} {l₁ : List α} {l₂ : List β} (h : Paired G l₁ l₂) : ∀ {i : Nat} {a : α}, l₁[i]? = some a → ∃ b, l₂[i]? = some b ∧ G a b := fun e => paired_get h e
theorem Paired.lists {α β γ : Type} {G : α → β → Prop} {f : α → γ} {g : β → γ} {l₁ : List α} {l₂ : List β} (h : Paired G l₁ l₂) (e : ∀ a b, G a b → f a = g b) : l₁.map f = l₂.map g := by
  induction h with
  | nil => rfl
  | cons r _ ih => rw [List.map_cons, List.map_cons, e _ _ r, ih]
/-- the keys and values after d[k] = v -/
def putKs (ks : List NestedKey) (k : NestedKey) : List NestedKey := if k ∈ ks then ks else ks ++ [k]
def posK {α : Type} [DecidableEq α] (ks : List α) (k : α) : Nat := ks.findIdx fun x => decide (x = k)
def putVs {α : Type} (ks : List NestedKey) (vs : List α) (k : NestedKey) (v : α) : List α := if k ∈ ks then vs.set (posK ks k) v else vs ++ [v]
theorem paired_map {α β : Type} {G : α → β → Prop} {f : α → α} {g : β → β} {l₁ : List α} {l₂ : List β} (h : Paired G l₁ l₂) (e : ∀ a b, G a b → G (f a) (g b)) : Paired G (l₁.map f) (l₂.map g) := by
  induction h with
  | nil => exact .nil
  | cons r _ ih => exact .cons (e _ _ r) ih
theorem paired_snoc {α β : Type} {G : α → β → Prop} {l₁ : List α} {l₂ : List β} {a : α} {b : β} (h : Paired G l₁ l₂) (e : G a b) : Paired G (l₁ ++ [a]) (l₂ ++ [b]) := by
  induction h with
  | nil => exact .cons e .nil
  | cons r _ ih => exact .cons r ih

section
variable {X : Cx} {pins : List (Addr × Obj)} {σ : L2.St} {H Fz : Hp} {s : Shared} {a b : Addr} {u r : Value} {x y v : V} {c : PyData} {k : NestedKey} {d : Bool} {ks : List NestedKey} {vs : List V} {A : Around} {E : Value → Shared → Prop}
theorem is_key (I : Inv X pins σ H s) (h : Dv X.K H y c) (ry : RelV y u) (e : k.data = c) : NestedIs s.heap k u := by
  subst e
  obtain ⟨as, rd⟩ := Dp.reads I _ _ _ (h.dp _) ry
  exact nis k u as rd
theorem DicAt.up {Z : Px} (ex : Ex Fz H) (D : DicAt Z Fz H a d ks vs) : DicAt Z H H a d ks vs := NodeAt.mono (k := .dic d ks) (dx := 0) ex (fun _ e => e) D
/-- what the heap holds there -/
theorem deep_of {es : List Ent} {ep : Nat} (I : Inv X pins σ H s) (e1 : H a = some (.ext (dPhi X.px a es ep))) (e4 : (es.map (·.1)).Nodup) (e7 : ∀ e ∈ es, Dv X.K H (.ref e.2.1) e.1.data ∧ e.1.depth ≤ 8) :
    ∃ xs o ee, Paired entRel es xs ∧ s.heap.get? a = some o ∧ o.ExactDict ∧ o.data = .dict ee ep ∧ ee.toList = xs.map (entryOfKey (nestedKind X.prog X.w)) ∧ s.heap.DictOfH (nestedKind X.prog X.w) a xs := by
  obtain ⟨⟨xs, pr, o, ee, h1, h2, h3, h4⟩, _, _⟩ := I.hok a _ e1
  refine ⟨xs, o, ee, pr, h1, h2, h3, h4, o, ee, ep, h1, h2, h3, h4, fun z hz => ?_, ?_⟩
  · obtain ⟨i, hi, ez⟩ := List.getElem_of_mem hz
    have hl : es.length = xs.length := Paired.length pr
    have g : es[i]? = some es[i] := List.getElem?_eq_getElem (by rw [hl]; exact hi)
    obtain ⟨z', g1, g2⟩ := Paired.at pr g
    rw [List.getElem?_eq_getElem hi, ez] at g1
    cases g1
    obtain ⟨dv, hd⟩ := e7 _ (List.mem_of_getElem? g)
    refine ⟨?_, by rw [← g2.1]; exact hd⟩
    rw [← g2.1]
    exact is_key I dv (by rw [g2.2.1]; rfl) rfl
  · rw [← Paired.lists pr (f := (·.1)) (g := (·.1)) fun _ _ q => q.1]
    exact e4
theorem flat_of {es : List (Key × V)} {ep : Nat} (I : Inv X pins σ H s) (e1 : H a = some (.ext (fPhi X.px a es ep))) : ∃ ws, KV es ws ∧ s.heap.DictAt (mixKind X.prog X.w) a ws ep := (I.hok a _ e1).1
theorem flatKey (h : KeyOk false c k) (dv : Dv X.K H y c) : ∃ q : Key, nkOf q = k ∧ y = kV q := by
  obtain ⟨rfl, h⟩ := h
  cases k with
  | num i => cases (show Dv X.K H y (.int i) from dv); exact ⟨.inl i, rfl, rfl⟩
  | text i => cases (show Dv X.K H y (.str i) from dv); exact ⟨.inr i, rfl, rfl⟩
  | none => exact h.elim
  | tup ks => exact h.elim
theorem deepKey (h : KeyOk true c k) (dv : Dv X.K H y c) : ∃ b, y = .ref b ∧ k.depth ≤ 8 := by
  obtain ⟨rfl, h⟩ := h
  cases k with
  | num i => exact h.elim
  | text i => exact h.elim
  | none => exact h.elim
  | tup ks =>
    cases (show Dv X.K H y (.tuple (NestedKey.datas ks)) from dv) with
    | tup h1 h2 => exact ⟨_, rfl, h⟩
theorem nkOf_inj {p q : Key} (h : nkOf p = nkOf q) : p = q := by
  cases p <;> cases q <;> cases h <;> rfl
theorem dic_getItem {i : Nat} {Q : Value → Shared → Prop} (hu : X.A.units + 64 < cLine) (I : Inv X pins σ H s) (D : DicAt X.px H H a d ks vs) (ko : KeyOk d c k) (dv : Dv X.K H y c) (ry : RelV y u) (hk : ks[i]? = some k) (hv : vs[i]? = some v)
    (h : ∀ w' s', Inv X pins σ H s' → RelV v w' → Q w' s') : wpAny (model X.prog X.w) X.A (getItem (.ref a) u) Q E s := by
  cases D with
  | flat es ep e1 e2 e3 =>
    obtain ⟨q, rfl, rfl⟩ := flatKey ko dv
    obtain ⟨ws, rel, dd⟩ := flat_of I e1
    rw [List.getElem?_map] at hk hv
    cases he : es[i]? with
    | none => rw [he] at hk; cases hk
    | some p =>
      rw [he] at hk hv
      obtain ⟨w, g1, g2⟩ := Paired.at rel he
      have ew : w = (q, w.2) := Prod.ext (by rw [← g2.1]; exact nkOf_inj (Option.some.inj hk)) rfl
      rw [ew] at g1
      refine wpAny_getItem_of (v := w.2) (kV_is ry) dd.dictOf.mapOf ?_ (h _ _ (I.tok _) ?_)
      · unfold valueAt
        rw [find_nodup g1 dd.nodup]
        rfl
      · rw [← show p.2 = v from Option.some.inj hv]; exact g2.2
  | deep es ep e1 e4 e5 e6 e7 =>
    obtain ⟨b, rfl, hd⟩ := deepKey ko dv
    cases (show u = Value.ref b from ry)
    obtain ⟨xs, o, ee, pr, h1, h2, h3, h4, dd⟩ := deep_of I e1 e4 e7
    rw [List.getElem?_map] at hk hv
    cases he : es[i]? with
    | none => rw [he] at hk; cases hk
    | some p =>
      rw [he] at hk hv
      obtain ⟨w, g1, g2⟩ := Paired.at pr he
      have ew : w = (k, w.2) := Prod.ext (by rw [← g2.1]; exact Option.some.inj hk) rfl
      rw [ew] at g1
      have hn : (xs.map (·.1)).Nodup := dd.nodup
      refine wpAny_getItem_heap (knd := nestedKind X.prog X.w) (k := k) (p := w.2) (show X.A.in1.units + 8 < cLine by show X.A.units + 1 + 8 < cLine; omega) ⟨is_key I dv rfl ko.1, hd⟩ dd ?_ (h _ _ (I.tok _) ?_)
      · unfold atKey
        rw [find_nodup g1 hn]
        rfl
      · rw [← show p.2.2 = v from Option.some.inj hv]; exact g2.2.2
theorem dic_in {neg : Bool} {Q : Value → Shared → Prop} (hu : X.A.units + 64 < cLine) (I : Inv X pins σ H s) (D : DicAt X.px H H a d ks vs) (ko : KeyOk d c k) (dv : Dv X.K H y c) (ry : RelV y u)
    (h : ∀ s', Inv X pins σ H s' → Q (.bool (if neg then !decide (k ∈ ks) else decide (k ∈ ks))) s') : wpAny (model X.prog X.w) X.A (compareOp (if neg then .NotIn else .In) u (.ref a)) Q E s := by
  cases D with
  | flat es ep e1 e2 e3 =>
    obtain ⟨q, rfl, rfl⟩ := flatKey ko dv
    obtain ⟨ws, rel, dd⟩ := flat_of I e1
    have hs : (valueAt ws q).isSome = decide (nkOf q ∈ es.map fun p => nkOf p.1) := by
      unfold valueAt
      rw [Option.isSome_map, find_some_iff, ← Paired.lists rel (f := (·.1)) (g := (·.1)) fun _ _ q => q.1]
      refine decide_eq_decide.mpr ⟨fun m => ?_, fun m => ?_⟩
      · obtain ⟨p, hp, ep⟩ := List.mem_map.mp m
        exact List.mem_map.mpr ⟨p, hp, by rw [ep]⟩
      · obtain ⟨p, hp, ep⟩ := List.mem_map.mp m
        exact List.mem_map.mpr ⟨p, hp, nkOf_inj ep⟩
    cases neg with
    | false => exact wpAny_in_of (kV_is ry) e3 dd.dictOf.mapOf (by rw [hs]; exact h _ (I.tok _))
    | true => exact wpAny_notIn_of (kV_is ry) e3 dd.dictOf.mapOf (by rw [hs]; exact h _ (I.tok _))
  | deep es ep e1 e4 e5 e6 e7 =>
    obtain ⟨b, rfl, hd⟩ := deepKey ko dv
    cases (show u = Value.ref b from ry)
    obtain ⟨xs, o, ee, pr, h1, h2, h3, h4, dd⟩ := deep_of I e1 e4 e7
    have hs : (atKey xs k).isSome = decide (k ∈ es.map (·.1)) := by
      unfold atKey
      rw [Option.isSome_map, find_some_iff, ← Paired.lists pr (f := (·.1)) (g := (·.1)) fun _ _ q => q.1]
    have hr : X.A.in1.units + 8 < cLine := by show X.A.units + 1 + 8 < cLine; omega
    cases neg with
    | false => exact wpAny_in_heap (knd := nestedKind X.prog X.w) (k := k) hr ⟨is_key I dv rfl ko.1, hd⟩ e6 dd (by rw [hs]; exact h _ (I.tok _))
    | true => exact wpAny_notIn_heap (knd := nestedKind X.prog X.w) (k := k) hr ⟨is_key I dv rfl ko.1, hd⟩ e6 dd (by rw [hs]; exact h _ (I.tok _))
theorem map_put {α β : Type} [DecidableEq α] : ∀ {l : List (α × β)} {k : α} (g : α × β → α × β), (l.map (·.1)).Nodup → k ∈ l.map (·.1) → ∃ p, l[posK (l.map (·.1)) k]? = some p ∧ p.1 = k ∧ l.map (fun x => if x.1 = k then g x else x) = l.set (posK (l.map (·.1)) k) (g p)
  | [], k, g, _, m => by cases m
  | x :: l, k, g, n, m => by
    have n' := List.nodup_cons.mp n
    unfold posK
    rw [List.map_cons, List.findIdx_cons]
    by_cases h : x.1 = k
    · refine ⟨x, ?_, h, ?_⟩
      · simp [h]
      · rw [List.map_cons]
        simp only [h, if_true, decide_true, cond_true, List.set_cons_zero]
        congr 1
        refine (List.map_congr_left fun y hy => ?_).trans (List.map_id _)
        have : y.1 ≠ k := fun e => n'.1 (List.mem_map.mpr ⟨y, hy, by show y.1 = x.1; rw [e, h]⟩)
        simp [this]
    · have m' : k ∈ l.map (·.1) := by
        rcases List.mem_cons.mp m with e | e
        · exact absurd e.symm h
        · exact e
      obtain ⟨p, h1, h2, h3⟩ := map_put g n'.2 m'
      unfold posK at h1 h3
      refine ⟨p, ?_, h2, ?_⟩
      · simpa [h] using h1
      · rw [List.map_cons]
        simp only [h, if_false, decide_false, cond_false, List.set_cons_succ, h3]
theorem ext_stable {P : Program} {w : World} {H' : Hp} {h' : Heap} {φ : Heap → Prop} (h1 : φ h') (h2 : ∃ o, h'.get? a = some o) (h3 : ∀ h1 h2 : Heap, φ h1 → (∀ o, h1.get? a = some o → h2.get? a = some o) → φ h2) : ObjOk P w H' h' a (.ext φ) := ⟨h1, h2, h3⟩
theorem dPhi_stable {Z : Px} {es : List Ent} {ep : Nat} (h1 h2 : Heap) (p : dPhi Z a es ep h1) (k : ∀ o, h1.get? a = some o → h2.get? a = some o) : dPhi Z a es ep h2 :=
  let ⟨xs, pr, o, ee, g1, g2⟩ := p
  ⟨xs, pr, o, ee, k o g1, g2⟩
theorem fPhi_stable {Z : Px} {es : List (Key × V)} {ep : Nat} (h1 h2 : Heap) (p : fPhi Z a es ep h1) (k : ∀ o, h1.get? a = some o → h2.get? a = some o) : fPhi Z a es ep h2 :=
  let ⟨ws, rel, dd⟩ := p
  ⟨ws, rel, dd.at' k⟩
theorem idx_map {p : Key → NestedKey} {l : List Key} {k : Key} (inj : ∀ a b, p a = p b → a = b) : posK (l.map p) (p k) = posK l k := by
  unfold posK
  induction l with
  | nil => rfl
  | cons x l ih =>
    rw [List.map_cons, List.findIdx_cons, List.findIdx_cons, ih]
    by_cases h : x = k
    · subst h; simp
    · have : p x ≠ p k := fun e => h (inj _ _ e)
      simp [h, this]
theorem map_set' {α β : Type} (f : α → β) (l : List α) (i : Nat) (x : α) : (l.set i x).map f = (l.map f).set i (f x) := List.map_set
/-- d[k] = v -/
theorem dic_setItem {Q : Unit → Shared → Prop} (hu : X.A.units + 64 < cLine) (ex : Ex Fz H) (I : Inv X pins σ H s) (D : DicAt X.px Fz H a d ks vs) (ko : KeyOk d c k) (dv : Dv X.K Fz y c) (ry : RelV y u) (rv : RelV v r) (hz : ks.length < sizeLine)
    (h : ∀ φ s', Inv X pins σ (upd H a (.ext φ)) s' → DicAt X.px Fz (upd H a (.ext φ)) a d (putKs ks k) (putVs ks vs k v) → Q () s') : wpAny (model X.prog X.w) X.A (setItem (.ref a) u r) Q E s := by
  have dvH : Dv X.K H y c := dp_mono ex _ _ dv
  cases D with
  | flat es ep e1 e2 e3 =>
    obtain ⟨q, rfl, rfl⟩ := flatKey ko dvH
    obtain ⟨ws, rel, dd⟩ := flat_of I e1
    have hl : es.length = ws.length := Paired.length rel
    have hne : es.length < sizeLine := by rw [List.length_map] at hz; exact hz
    refine wpAny_setItem_pairs (hsz := by rw [← hl]; exact e2) (kV_is ry) dd.dictOf fun h' dd' hs => ?_
    obtain ⟨ep', dd2⟩ := dd'.dictAt
    have hks : es.map (·.1) = ws.map (·.1) := Paired.lists rel (f := (·.1)) (g := (·.1)) fun _ _ q => q.1
    have hn : (es.map (·.1)).Nodup := by rw [hks]; exact dd.nodup
    have rel' : KV (putK es q v) (stored ws q r) := rel.put q rv
    have hlen : (putK es q v).length ≤ sizeLine := by have := length_putK es q v; omega
    have hst : s.heap.get? a ≠ none := fun e => by obtain ⟨o, es', g, _⟩ := dd; rw [g] at e; cases e
    have I' : Inv X pins σ (upd H a (.ext (fPhi X.px a (putK es q v) ep'))) { s with heap := h', toks := s.toks + 1 } :=
      d_write I (by rw [e1]; exact True.intro) hs (let ⟨o, _, g, _⟩ := dd2; ⟨o, g⟩) (ext_stable ⟨_, rel', dd2⟩ (let ⟨o, _, g, _⟩ := dd2; ⟨o, g⟩) (fun h1 h2 => fPhi_stable h1 h2))
    refine h _ _ I' ?_
    generalize hH : upd H a (.ext (fPhi X.px a (putK es q v) ep')) = H'
    have eH : H' a = some (.ext (fPhi X.px a (putK es q v) ep')) := by rw [← hH]; exact upd_same
    have D' : DicAt X.px Fz H' a false ((putK es q v).map fun p => nkOf p.1) ((putK es q v).map (·.2)) := .flat _ ep' eH hlen e3
    clear eH hH I'
    have hmem : (nkOf q ∈ es.map fun p => nkOf p.1) ↔ q ∈ es.map (·.1) := by
      refine ⟨fun m => ?_, fun m => ?_⟩
      · obtain ⟨p, hp, ep⟩ := List.mem_map.mp m
        exact List.mem_map.mpr ⟨p, hp, nkOf_inj ep⟩
      · obtain ⟨p, hp, ep⟩ := List.mem_map.mp m
        exact List.mem_map.mpr ⟨p, hp, by rw [ep]⟩
    have hany : (es.any fun kv => decide (kv.1 = q)) = true ↔ q ∈ es.map (·.1) := by
      rw [List.any_eq_true]
      refine ⟨fun ⟨p, hp, ep⟩ => List.mem_map.mpr ⟨p, hp, of_decide_eq_true ep⟩, fun m => ?_⟩
      obtain ⟨p, hp, ep⟩ := List.mem_map.mp m
      exact ⟨p, hp, decide_eq_true ep⟩
    have hmm : (es.map fun p => nkOf p.1) = (es.map (·.1)).map nkOf := by rw [List.map_map]; rfl
    by_cases hq : q ∈ es.map (·.1)
    · obtain ⟨p, g1, g2, g3⟩ := map_put (fun kv => (kv.1, v)) hn hq
      have ep1 : putK es q v = es.set (posK (es.map (·.1)) q) (p.1, v) := by
        unfold putK
        rw [if_pos (hany.mpr hq)]
        exact g3
      rw [ep1, map_set', map_set'] at D'
      unfold putKs putVs
      rw [if_pos (hmem.mpr hq), if_pos (hmem.mpr hq), hmm, idx_map (p := nkOf) (fun a b => nkOf_inj), ← hmm]
      have e8 : (es.map fun p => nkOf p.1).set (posK (es.map (·.1)) q) (nkOf p.1) = es.map fun p => nkOf p.1 := by
        refine List.ext_getElem? fun i => ?_
        by_cases hi : posK (es.map (·.1)) q = i
        · subst hi
          have hlt : posK (es.map (·.1)) q < (es.map fun p => nkOf p.1).length := by rw [List.length_map]; exact (List.getElem?_eq_some_iff.mp g1).1
          rw [List.getElem?_set_self hlt, List.getElem?_map, g1]
          rfl
        · rw [List.getElem?_set_ne hi]
      rw [e8] at D'
      exact D'
    · have ep1 : putK es q v = es ++ [(q, v)] := by
        unfold putK
        rw [if_neg (fun z => hq (hany.mp z))]
      rw [ep1, List.map_append, List.map_append] at D'
      unfold putKs putVs
      rw [if_neg (fun z => hq (hmem.mp z)), if_neg (fun z => hq (hmem.mp z))]
      exact D'
  | deep es ep e1 e4 e5 e6 e7 =>
    obtain ⟨b, rfl, hd⟩ := deepKey ko dvH
    cases (show u = Value.ref b from ry)
    have e7' : ∀ e ∈ es, Dv X.K H (.ref e.2.1) e.1.data ∧ e.1.depth ≤ 8 := fun e he => ⟨dp_mono ex _ _ (e7 e he).1, (e7 e he).2⟩
    obtain ⟨xs, o, ee, pr, h1, h2, h3, h4, dd⟩ := deep_of I e1 e4 e7'
    have hl : es.length = xs.length := Paired.length pr
    have hne : es.length < sizeLine := by rw [List.length_map] at hz; exact hz
    have hks : es.map (·.1) = xs.map (·.1) := Paired.lists pr (f := (·.1)) (g := (·.1)) fun _ _ q => q.1
    have hr : X.A.in1.units + 8 < cLine := by show X.A.units + 1 + 8 < cLine; omega
    have hany : (atKey xs k).isSome = true ↔ k ∈ es.map (·.1) := by
      unfold atKey
      rw [Option.isSome_map, find_some_iff, hks, decide_eq_true_iff]
    refine wpAny_setItem_heap (knd := nestedKind X.prog X.w) (k := k) (hsz := by rw [← hl]; exact Nat.le_of_lt hne) hr ⟨is_key I dvH rfl ko.1, hd⟩ dd fun h' dd' hs => ?_
    have fin : ∀ es' : List Ent, Paired entRel es' (storedH xs k b r) → (es'.map (·.1)).Nodup → es'.length ≤ sizeLine → (∀ e ∈ es', Dv X.K Fz (.ref e.2.1) e.1.data ∧ e.1.depth ≤ 8) → es'.map (·.1) = putKs (es.map (·.1)) k → es'.map (·.2.2) = putVs (es.map (·.1)) (es.map (·.2.2)) k v → Q () { s with heap := h', toks := s.toks + (nestedKind X.prog X.w).draws k } := fun es' pr' n' l' k' q1 q2 => by
      obtain ⟨o', es2, ep', g1, g2, g3, g4, g5, g6⟩ := dd'
      have I' : Inv X pins σ (upd H a (.ext (dPhi X.px a es' ep'))) { s with heap := h', toks := s.toks + (nestedKind X.prog X.w).draws k } :=
        d_write I (by rw [e1]; exact True.intro) hs ⟨_, g1⟩ (ext_stable ⟨_, pr', _, _, g1, g2, g3, g4⟩ ⟨_, g1⟩ (fun h1 h2 => dPhi_stable h1 h2))
      refine h _ _ I' ?_
      rw [← q1, ← q2]
      exact .deep es' ep' upd_same n' l' e6 k'
    by_cases hq : k ∈ es.map (·.1)
    · obtain ⟨p, g1, g2, g3⟩ := map_put (fun x : NestedKey × Addr × V => (x.1, x.2.1, v)) e4 hq
      have k1 : (es.map fun x => if x.1 = k then (x.1, x.2.1, v) else x).map (·.1) = es.map (·.1) := by
        rw [List.map_map]
        refine List.map_congr_left fun x _ => ?_
        show (if x.1 = k then (x.1, x.2.1, v) else x).1 = x.1
        split <;> rfl
      refine fin (es.map fun x => if x.1 = k then (x.1, x.2.1, v) else x) ?_ (by rw [k1]; exact e4) (by rw [List.length_map]; exact e5) (fun e he => ?_) ?_ ?_
      · unfold storedH
        rw [if_pos (hany.mpr hq)]
        refine paired_map pr fun x z q => ?_
        unfold putAt
        by_cases hx : x.1 = k
        · rw [if_pos hx, if_pos (by rw [← q.1]; exact hx)]
          exact ⟨q.1, q.2.1, rv⟩
        · rw [if_neg hx, if_neg (by rw [← q.1]; exact hx)]
          exact q
      · obtain ⟨x, hx, ex'⟩ := List.mem_map.mp he
        by_cases hxk : x.1 = k
        · rw [if_pos hxk] at ex'; subst ex'; exact e7 x hx
        · rw [if_neg hxk] at ex'; subst ex'; exact e7 x hx
      · rw [k1]; unfold putKs; rw [if_pos hq]
      · unfold putVs
        rw [if_pos hq, g3, map_set']
    · refine fin (es ++ [(k, b, v)]) ?_ ?_ ?_ ?_ ?_ ?_
      · unfold storedH
        rw [if_neg (fun z => hq (hany.mp z))]
        exact paired_snoc pr ⟨rfl, rfl, rv⟩
      · rw [List.map_append]
        refine List.nodup_append.mpr ⟨e4, by simp, fun p hp q hq' e => ?_⟩
        have : q = k := by simpa using hq'
        rw [e, this] at hp
        exact hq hp
      · rw [List.length_append]; exact hne
      · intro e he
        rcases List.mem_append.mp he with he | he
        · exact e7 e he
        · have : e = (k, b, v) := by simpa using he
          subst this
          exact ⟨by show Dv X.K Fz (.ref b) k.data; rw [ko.1]; exact dv, hd⟩
      · rw [List.map_append]; unfold putKs; rw [if_neg hq]; rfl
      · rw [List.map_append]; unfold putVs; rw [if_neg hq]; rfl
end
end DL

set_option maxRecDepth 100000
namespace DL
open PySem PySem.Spec PyProof.Rows L2
open Evl (Ex Ex.refl Ex.trans Ex.new Ex.mut ex_l ex_t ex_rd fresh_back)

/-! ### rules for dicts -/
def rDicGet (Z : Px) : R2 := fun x y H Q => ∃ (Fz : Hp) (a : Addr) (d : Bool) (ks : List NestedKey) (vs : List V) (c : PyData) (k : NestedKey) (i : Nat) (v : V),
  Ex Fz H ∧ x = .ref a ∧ DicAt Z Fz H a d ks vs ∧ Dv Z.K Fz y c ∧ KeyOk d c k ∧ ks[i]? = some k ∧ vs[i]? = some v ∧ Q v H
def rDicIn (Z : Px) (neg : Bool) : R2 := fun y x H Q => ∃ (Fz : Hp) (a : Addr) (d : Bool) (ks : List NestedKey) (vs : List V) (c : PyData) (k : NestedKey),
  Ex Fz H ∧ x = .ref a ∧ DicAt Z Fz H a d ks vs ∧ Dv Z.K Fz y c ∧ KeyOk d c k ∧ Q (.bl (if neg then !decide (k ∈ ks) else decide (k ∈ ks))) H
def rDicSet (Z : Px) : TSet := fun x y v H Q => ∃ (Fz : Hp) (a : Addr) (d : Bool) (ks : List NestedKey) (vs : List V) (c : PyData) (k : NestedKey),
  Ex Fz H ∧ x = .ref a ∧ DicAt Z Fz H a d ks vs ∧ Dv Z.K Fz y c ∧ KeyOk d c k ∧ ks.length < sizeLine ∧
  ∀ φ, DicAt Z Fz (upd H a (.ext φ)) a d (putKs ks k) (putVs ks vs k v) → Q (upd H a (.ext φ))
def rDicLen (Z : Px) : List V → Hp → VK → Prop := fun xs H Q => ∃ (a : Addr) (d : Bool) (ks : List NestedKey) (vs : List V), xs = [.ref a] ∧ DicAt Z H H a d ks vs ∧ Q (.int ks.length) H
def tDicNew (Z : Px) (d : Bool) : TE := fun _ H Q => ∀ p, H p = none → ∀ φ, DicAt Z (fun _ => none) (upd H p (.ext φ)) p d [] [] → Q (.ref p) (upd H p (.ext φ))
section
variable {X : Cx}
theorem ix_dic (hu : X.A.units + 64 < cLine) : IxR X (rDicGet X.px) := by
  intro value slice pins s σ H x y v u Q I rx ry h hs
  obtain ⟨Fz, a, d, ks, vs, c, k, i, w, ex, rfl, D, dv, ko, hk, hv, q⟩ := h
  obtain rfl : v = Value.ref a := rx
  have hT : s.TypeIs (.ref a) "dict" := by
    cases D.up ex with
    | flat es ep e1 e2 e3 =>
      obtain ⟨ws, rel, dd⟩ := flat_of I e1
      exact dd.dictOf.typeIs
    | deep es ep e1 e4 e5 e6 e7 =>
      obtain ⟨xs, o, ee, pr, h1, h2, h3, h4, dd⟩ := deep_of I e1 e4 e7
      exact dd.typeIs
  exact tail_any hT slot_dict_getitem.lookup (dic_getItem hu I (D.up ex) ko (dp_mono ex _ _ dv) ry hk hv fun w' s' I' rw' => ⟨w, H, I', rw', q⟩) hs
theorem op_inDic (hu : X.A.units + 64 < cLine) : OpR X (compareOp .In) (rDicIn X.px false) := by
  intro pins s σ H x y v u Q I rx ry h
  obtain ⟨Fz, a, d, ks, vs, c, k, ex, rfl, D, dv, ko, q⟩ := h
  obtain rfl : u = Value.ref a := ry
  exact dic_in (neg := false) hu I (D.up ex) ko (dp_mono ex _ _ dv) rx fun s' I' => ⟨.bl _, H, I', rfl, q⟩
theorem op_notInDic (hu : X.A.units + 64 < cLine) : OpR X (compareOp .NotIn) (rDicIn X.px true) := by
  intro pins s σ H x y v u Q I rx ry h
  obtain ⟨Fz, a, d, ks, vs, c, k, ex, rfl, D, dv, ko, q⟩ := h
  obtain rfl : u = Value.ref a := ry
  exact dic_in (neg := true) hu I (D.up ex) ko (dp_mono ex _ _ dv) rx fun s' I' => ⟨.bl _, H, I', rfl, q⟩
theorem set_dic (hu : X.A.units + 64 < cLine) : PSet X (rDicSet X.px) := by
  intro pins s σ H o i v ov iv u Q I ro ri rv h
  obtain ⟨Fz, a, d, ks, vs, c, k, ex, rfl, D, dv, ko, hz, q⟩ := h
  obtain rfl : ov = Value.ref a := ro
  exact dic_setItem hu ex I D ko dv ri rv hz fun φ s' I' D' => ⟨_, I', q φ D'⟩
theorem call_lenDic : CallR X (.builtin "len") (rDicLen X.px) := by
  intro pins s σ H xs us Q I r h
  obtain ⟨a, d, ks, vs, rfl, D, q⟩ := h
  obtain ⟨u, rfl, rx⟩ := vals1 r
  obtain rfl : u = Value.ref a := rx
  have z := sizeLine_eq
  cases D with
  | flat es ep e1 e2 e3 =>
    obtain ⟨ws, rel, dd⟩ := flat_of I e1
    have hl : es.length = ws.length := Paired.length rel
    refine call_len_dict e3 dd.dictOf (by rw [← hl]; omega) ⟨.int es.length, H, I.tok _, ⟨s.toks + 1, by rw [hl]⟩, ?_⟩
    rw [List.length_map] at q
    exact q
  | deep es ep e1 e4 e5 e6 e7 =>
    obtain ⟨xs, o, ee, pr, h1, h2, h3, h4, dd⟩ := deep_of I e1 e4 e7
    have hl : es.length = xs.length := Paired.length pr
    refine call_len_dictH e6 dd (by rw [← hl]; omega) ⟨.int es.length, H, I.tok _, ⟨s.toks + 1, by rw [hl]⟩, ?_⟩
    rw [List.length_map] at q
    exact q
theorem pe_dicNew (d : Bool) {pos : Pos} : PE X (.Dict [] [] pos) (tDicNew X.px d) := ⟨fun pins s σ H Q I h => by
  have hf : H s.heap.objs.size = none := I.hok.fresh (Nat.le_refl _)
  have ho := Heap.get?_push_size s.heap (o := { cls := .type "dict", data := .dict #[] }) rfl
  have hb : (s.heap.objs.size == sysModules) = false := by
    exact beq_false_of_ne (Nat.ne_of_gt I.big)
  cases d with
  | true =>
    have hp : dPhi X.px s.heap.objs.size [] 0 (s.heap.push { cls := .type "dict", data := .dict #[] }) := ⟨[], .nil, _, _, ho, ⟨rfl, rfl, rfl⟩, rfl, rfl⟩
    exact wpAny_Dict_empty ⟨.ref s.heap.objs.size, _, I.laid (a := s.heap.objs.size) (o := .ext (dPhi X.px s.heap.objs.size [] 0)) (t' := s.toks) (fun _ _ q => Heap.get?_push_of_some _ q) (Nat.le_refl _) (ext_stable hp ⟨_, ho⟩ fun h1 h2 => dPhi_stable h1 h2), rfl,
      h _ hf _ (.deep [] 0 upd_same List.nodup_nil (Nat.zero_le _) hb fun _ z => nomatch z)⟩
  | false =>
    have hp : fPhi X.px s.heap.objs.size [] 0 (s.heap.push { cls := .type "dict", data := .dict #[] }) := ⟨[], .nil, _, _, ho, ⟨rfl, rfl, rfl⟩, rfl, by first | exact fun _ h => nomatch h | (intro e he; simp at he) | (intro i hi; simp at hi), by first | exact .nil | exact Pairs.nil | exact Paired.nil | rfl, List.nodup_nil⟩
    exact wpAny_Dict_empty ⟨.ref s.heap.objs.size, _, I.laid (a := s.heap.objs.size) (o := .ext (fPhi X.px s.heap.objs.size [] 0)) (t' := s.toks) (fun _ _ q => Heap.get?_push_of_some _ q) (Nat.le_refl _) (ext_stable hp ⟨_, ho⟩ fun h1 h2 => fPhi_stable h1 h2), rfl,
      h _ hf _ (.flat [] 0 upd_same (Nat.zero_le _) hb)⟩⟩
end

/-! ### walks over keys -/
def ItD (Z : Px) (a : Addr) (es : List Ent) (ep : Nat) : It :=
  ⟨fun i H => H a = some (.ext (dPhi Z a es ep)) ∧ i < es.length, fun i H x H' => H' = H ∧ ∃ e, es[i]? = some e ∧ x = .ref e.2.1, fun i H => H a = some (.ext (dPhi Z a es ep)) ∧ es.length ≤ i⟩
def ItF (Z : Px) (a : Addr) (es : List (Key × V)) (ep : Nat) : It :=
  ⟨fun i H => H a = some (.ext (fPhi Z a es ep)) ∧ i < es.length, fun i H x H' => H' = H ∧ ∃ e, es[i]? = some e ∧ x = kV e.1, fun i H => H a = some (.ext (fPhi Z a es ep)) ∧ es.length ≤ i⟩
theorem es_at {es : Array DictEntry} {f : α → DictEntry} {xs : List α} (h : es.toList = xs.map f) {i : Nat} {x : α} (hx : xs[i]? = some x) : es[i]? = some (f x) := by
  rw [← Array.getElem?_toList, h, List.getElem?_map, hx]; rfl
section
variable {P : Program} {w : World} {K : PySem.W.Frag} {tg : Expr} {a : Addr} {ep : Nat}
theorem turn_D {es : List Ent} (it : Addr) : Turn P w K tg (ItD ⟨P, w, K⟩ a es ep) [it] it (fun i h => h.IsKeyIter it a i es.length ep) where
  mem := by simp
  obj := fun i h st b hb => by
    have e : b = it := by simpa using hb
    subst e
    obtain ⟨oi, e, c, dd⟩ := st
    exact ⟨oi, e, fun v z => by rw [dd] at z; cases z⟩
  keep := fun i h h' st k => st.at fun oi e => k it (by simp) oi e
  item := by
    intro X hP hw hK hc i pins s σ H E I hf st hg
    subst hP hw hK
    obtain ⟨hd, hi⟩ := hg
    obtain ⟨f0, f1, f2, f3, f4, f5⟩ := hf it (by simp)
    obtain ⟨⟨xs, pr, o, ee, h1, h2, h3, h4⟩, _, _⟩ := I.hok a _ hd
    have hl : es.length = xs.length := Paired.length pr
    have he : es[i]? = some es[i] := List.getElem?_eq_getElem hi
    obtain ⟨z, g1, g2⟩ := Paired.at pr he
    have hsz : ee.size = es.length := by rw [hl, ← Array.length_toList, h4, List.length_map]
    refine next_key_item st h1 h3 hsz (es_at h4 g1) fun h' st' sb => ?_
    have I1 : Inv X pins σ H { s with heap := h' } := I.turned (t' := s.toks) (fun b ob hb e => (sb.2 b hb).trans e) f0 f1 f3 f4 f5
    obtain ⟨oi, e, c, dd⟩ := id st'
    exact ⟨.ref z.2.1, rfl, go_of (s := { s with heap := h' }) e c dd (by decide) ⟨.ref es[i].2.1, H, I1, by rw [g2.2.1]; rfl, ⟨rfl, _, he, rfl⟩, st', fun b hb => (hf b hb).1⟩⟩
  done := by
    intro X hP hw hK hc i pins s σ H E I hf st hg
    subst hP hw hK
    obtain ⟨hd, hi⟩ := hg
    obtain ⟨f0, f1, f2, f3, f4, f5⟩ := hf it (by simp)
    obtain ⟨⟨xs, pr, o, ee, h1, h2, h3, h4⟩, _, _⟩ := I.hok a _ hd
    have hl : es.length = xs.length := Paired.length pr
    have hsz : ee.size = es.length := by rw [hl, ← Array.length_toList, h4, List.length_map]
    exact next_key_end (I.ok.hd hc) st h1 h3 hsz hi fun h' eb => ⟨rfl, I.turned (t' := s.toks) (fun b ob hb e => eb b ob hb e) f0 f1 f3 f4 f5⟩
  self := fun A i s Q E st h => by
    refine wpAny_pyIter_slot st.typeIs F.slot_dict_keyiterator_iter (wpAny_call_entry F.slot_dict_keyiterator_iter st.typeIs F.entry_dict_keyiterator_iter ?_ (F.args_dict_keyiterator_iter_1 _))
    show wpAny _ _ (ret (.ref it)) _ _ s
    exact wpAny_pure ⟨_, rfl, "dict_keyiterator", _, st.typeIs, F.slot_dict_keyiterator_next.lookup, h⟩
theorem turn_F {es : List (Key × V)} (it : Addr) : Turn P w K tg (ItF ⟨P, w, K⟩ a es ep) [it] it (fun i h => h.IsKeyIter it a i es.length ep) where
  mem := by simp
  obj := fun i h st b hb => by
    have e : b = it := by simpa using hb
    subst e
    obtain ⟨oi, e, c, dd⟩ := st
    exact ⟨oi, e, fun v z => by rw [dd] at z; cases z⟩
  keep := fun i h h' st k => st.at fun oi e => k it (by simp) oi e
  item := by
    intro X hP hw hK hc i pins s σ H E I hf st hg
    subst hP hw hK
    obtain ⟨hd, hi⟩ := hg
    obtain ⟨f0, f1, f2, f3, f4, f5⟩ := hf it (by simp)
    obtain ⟨⟨ws, rel, dd⟩, _, _⟩ := I.hok a _ hd
    have hl : es.length = ws.length := Paired.length rel
    have he : es[i]? = some es[i] := List.getElem?_eq_getElem hi
    obtain ⟨z, g1, g2⟩ := Paired.at rel he
    obtain ⟨ee, ⟨o, h1, h2, h3⟩, hsz, hk⟩ := dd.raw
    have hi' : i < ee.size := by rw [hsz, ← hl]; exact hi
    obtain ⟨k1, k2⟩ := hk i hi' z.1 z.2 g1
    refine next_key_item st h1 h3 (by rw [hsz, hl]) (Array.getElem?_eq_getElem hi') fun h' st' sb => ?_
    have I1 : Inv X pins σ H { s with heap := h' } := I.turned (t' := s.toks) (fun b ob hb e => (sb.2 b hb).trans e) f0 f1 f3 f4 f5
    obtain ⟨oi, e, c, dd⟩ := id st'
    exact ⟨_, rfl, go_of (s := { s with heap := h' }) e c dd (by decide) ⟨kV es[i].1, H, I1, by rw [g2.1]; exact relV_key k1, ⟨rfl, _, he, rfl⟩, st', fun b hb => (hf b hb).1⟩⟩
  done := by
    intro X hP hw hK hc i pins s σ H E I hf st hg
    subst hP hw hK
    obtain ⟨hd, hi⟩ := hg
    obtain ⟨f0, f1, f2, f3, f4, f5⟩ := hf it (by simp)
    obtain ⟨⟨ws, rel, dd⟩, _, _⟩ := I.hok a _ hd
    have hl : es.length = ws.length := Paired.length rel
    obtain ⟨ee, ⟨o, h1, h2, h3⟩, hsz, hk⟩ := dd.raw
    exact next_key_end (I.ok.hd hc) st h1 h3 (by rw [hsz, hl]) hi fun h' eb => ⟨rfl, I.turned (t' := s.toks) (fun b ob hb e => eb b ob hb e) f0 f1 f3 f4 f5⟩
  self := fun A i s Q E st h => by
    refine wpAny_pyIter_slot st.typeIs F.slot_dict_keyiterator_iter (wpAny_call_entry F.slot_dict_keyiterator_iter st.typeIs F.entry_dict_keyiterator_iter ?_ (F.args_dict_keyiterator_iter_1 _))
    show wpAny _ _ (ret (.ref it)) _ _ s
    exact wpAny_pure ⟨_, rfl, "dict_keyiterator", _, st.typeIs, F.slot_dict_keyiterator_next.lookup, h⟩
end
def iDic (Z : Px) (td : TE) : TI := fun σ H R => td σ H fun x H1 => ∃ a, x = .ref a ∧ (a == sysModules) = false ∧ ((∃ es ep, H1 a = some (.ext (dPhi Z a es ep)) ∧ R (ItD Z a es ep) H1) ∨ ∃ es ep, H1 a = some (.ext (fPhi Z a es ep)) ∧ R (ItF Z a es ep) H1)
theorem pi_dic {X : Cx} {tg e : Expr} {td : TE} (he : PE X e td) : PI X tg e (iDic X.px td) := by
  refine ⟨fun pins s σ H R I h => ?_⟩
  refine thn (he.run pins s σ H _ I h) fun u s1 ⟨x, H1, I1, rx, a, ex, hs, q⟩ => ?_
  subst ex
  obtain rfl : u = Value.ref a := rx
  rcases q with ⟨es, ep, hd, q⟩ | ⟨es, ep, hd, q⟩
  · obtain ⟨⟨xs, pr, o, ee, h1, h2, h3, h4⟩, _, _⟩ := I1.hok a _ hd
    have hl : es.length = xs.length := Paired.length pr
    have hsz : ee.size = es.length := by rw [hl, ← Array.length_toList, h4, List.length_map]
    refine iter_keys hs h1 h2 h3 (pi_one (tk := s1.toks) I1 _ (turn_D _) ⟨_, Heap.get?_push_size _ rfl, rfl, ?_⟩ q)
    rw [hsz]; rfl
  · obtain ⟨⟨ws, rel, dd⟩, _, _⟩ := I1.hok a _ hd
    have hl : es.length = ws.length := Paired.length rel
    obtain ⟨ee, ⟨o, h1, h2, h3⟩, hsz, hk⟩ := dd.raw
    refine iter_keys hs h1 h2 h3 (pi_one (tk := s1.toks) I1 _ (turn_F _) ⟨_, Heap.get?_push_size _ rfl, rfl, ?_⟩ q)
    rw [hsz, ← hl]; rfl

/-! ### list(d), tuple(d), sorted(d), sorted(l) -/
theorem dvs_of_each {K : PySem.W.Frag} {Fz : Hp} : ∀ {us : List Value} {ds : List PyData}, us.length = ds.length → (∀ (i : Nat) (u : Value) (d : PyData), us[i]? = some u → ds[i]? = some d → ∃ y, RelV y u ∧ Dv K Fz y d) → ∃ ys, Vals ys us ∧ Dvs K Fz ys ds
  | [], [], _, _ => ⟨[], .nil, .nil⟩
  | [], _ :: _, h, _ => by cases h
  | _ :: _, [], h, _ => by cases h
  | u :: us, d :: ds, h, f => by
    obtain ⟨y, r, q⟩ := f 0 u d rfl rfl
    obtain ⟨ys, r', q'⟩ := dvs_of_each (us := us) (ds := ds) (by simpa using h) fun i u' d' g1 g2 => f (i + 1) u' d' (by simpa using g1) (by simpa using g2)
    exact ⟨y :: ys, .cons r r', .cons q q'⟩
section
variable {X : Cx} {pins : List (Addr × Obj)} {σ : L2.St} {H Fz : Hp} {s : Shared} {a : Addr} {d : Bool} {ks : List NestedKey} {vs : List V}
theorem dic_src (I : Inv X pins σ H s) (ex : Ex Fz H) (D : DicAt X.px Fz H a d ks vs) : ∃ (OK : Heap → Prop) (P : Nat → Value → Prop), PySem.W.KdlSrc X.prog X.w "dict" a a ks.length P OK ∧ OK s.heap ∧ ks.length ≤ sizeLine ∧
    ∀ i u k, P i u → ks[i]? = some k → ∃ y, RelV y u ∧ Dv X.K Fz y k.data := by
  cases D with
  | flat es ep e1 e2 e3 =>
    obtain ⟨ws, rel, dd⟩ := flat_of I e1
    have hl : es.length = ws.length := Paired.length rel
    have K := PySem.W.kdl_dict (knd := mixKind X.prog X.w) (kvs := ws) (ep := ep) e3
    rw [List.length_map, hl]
    refine ⟨_, _, K, dd, by rw [← hl]; exact e2, fun i u k p hk => ?_⟩
    obtain ⟨q, x, g1, g2⟩ := p
    rw [List.getElem?_map] at hk
    cases he : es[i]? with
    | none => rw [he] at hk; cases hk
    | some e =>
      rw [he] at hk
      obtain ⟨z, g3, g4⟩ := Paired.at rel he
      rw [g1] at g3
      cases g3
      have : nkOf q = k := by rw [← Option.some.inj hk, ← show e.1 = q from g4.1]
      subst this
      exact ⟨kV q, relV_key g2, by cases q <;> first | exact .int _ | exact .str _⟩
  | deep es ep e1 e4 e5 e6 e7 =>
    obtain ⟨xs, o, ee, pr, h1, h2, h3, h4, dd⟩ := deep_of I e1 e4 fun e he => ⟨dp_mono ex _ _ (e7 e he).1, (e7 e he).2⟩
    have hl : es.length = xs.length := Paired.length pr
    have hsz : ee.size = es.length := by rw [hl, ← Array.length_toList, h4, List.length_map]
    have K := PySem.KdlSrc.rawDict (prog := X.prog) (w := X.w) (d := a) (es := ee) (ep := ep) e6
    rw [List.length_map, ← hsz]
    refine ⟨_, _, K, ⟨o, h1, h2, h3⟩, by rw [hsz]; exact e5, fun i u k p hk => ?_⟩
    obtain ⟨hi, rfl⟩ := p
    rw [List.getElem?_map] at hk
    cases he : es[i]? with
    | none => rw [he] at hk; cases hk
    | some e =>
      rw [he] at hk
      obtain ⟨z, g3, g4⟩ := Paired.at pr he
      have g5 := es_at h4 g3
      rw [Array.getElem?_eq_getElem hi] at g5
      refine ⟨.ref e.2.1, ?_, ?_⟩
      · rw [Option.some.inj g5, g4.2.1]; rfl
      · rw [← Option.some.inj hk]; exact (e7 e (List.mem_of_getElem? he)).1
theorem dic_items {P : Nat → Value → Prop} {acc : Array Value} (hp : ∀ i u k, P i u → ks[i]? = some k → ∃ y, RelV y u ∧ Dv X.K Fz y k.data) (h : ItemsOf P acc ks.length) : ∃ ys, Vals ys acc.toList ∧ Dvs X.K Fz ys (ks.map NestedKey.data) := by
  refine dvs_of_each (by rw [Array.length_toList, h.1, List.length_map]) fun i u c g1 g2 => ?_
  rw [List.getElem?_map] at g2
  cases hk : ks[i]? with
  | none => rw [hk] at g2; cases g2
  | some k =>
    rw [hk] at g2
    cases g2
    exact hp i u k (h.2 i u (by rw [← Array.getElem?_toList]; exact g1)) hk
end
def rDicCol (Z : Px) (mk : List V → HO) : List V → Hp → VK → Prop := fun xs H Q => ∃ (Fz : Hp) (a : Addr) (d : Bool) (ks : List NestedKey) (vs : List V), Ex Fz H ∧ xs = [.ref a] ∧ DicAt Z Fz H a d ks vs ∧
  ∀ l ys, H l = none → Dvs Z.K Fz ys (ks.map NestedKey.data) → Q (.ref l) (upd H l (mk ys))
section
variable {X : Cx}
theorem call_listDic (hc : X.calm = true) : CallR X (.type "list") (rDicCol X.px .lst) := by
  intro pins s σ H xs us Q I r h
  obtain ⟨Fz, a, d, ks, vs, ex, rfl, D, q⟩ := h
  obtain ⟨u, rfl, rx⟩ := vals1 r
  obtain rfl : u = Value.ref a := rx
  obtain ⟨OK, P, K, ok, hz, hp⟩ := dic_src I ex D
  refine PySem.W.kdl_call K (I.ok.hd hc) ok hz fun h' tk acc' c' hk hS hacc => ?_
  obtain ⟨ys, hv, hd⟩ := dic_items hp hacc
  have hl : ys.length = ks.length := by rw [hd.length, List.length_map]
  refine ⟨.ref s.heap.objs.size, upd H s.heap.objs.size (.lst ys), I.laid hk (Nat.le_refl _) (show ObjOk X.prog X.w _ _ _ (.lst ys) from ⟨by rw [hl]; exact hz, acc'.toList, c', hv, by rw [Array.toArray_toList]; exact hS⟩), rfl, q _ _ (I.hok.fresh (Nat.le_refl _)) hd⟩
end
section
variable {prog : Program} {w : World} {A : Around} {E : Value → Shared → Prop} {s : Shared} {a : Addr} {n : Nat} {P : Nat → Value → Prop} {OK : Heap → Prop}
theorem code_tuple_dic {Q₁ : Value → Shared → Prop} (K : PySem.W.KdlSrc prog w "dict" a a n P OK) (hh : A.handled = none) (ok : OK s.heap) (hn : n ≤ sizeLine)
    (h : ∀ (h' : Heap) (tk : Nat) (acc : Array Value), (∀ b o, s.heap.get? b = some o → h'.get? b = some o) → ItemsOf P acc n →
      Q₁ (.ref h'.objs.size) { s with heap := h'.push { cls := .type "tuple", data := .seq acc }, toks := tk }) :
    codeAny (model prog w) A (.call (.builtin "tuple.__new__") ⟨[.type "tuple", .ref a], []⟩) (wants Q₁ E) s := by
  refine codeAny_of_tree ?_
  show wpAny _ A.in1 (do checkBuiltinCall "tuple.__new__" ⟨[.type "tuple", .ref a], []⟩; again (.builtin "tuple.__new__" ⟨[.type "tuple", .ref a], []⟩)) _ _ s
  refine wpAny_bind (wpAny_of_eq (F.newCall_tuple_1 _) (wpAny_pure ⟨plainId_quiet F.plain_tuple_new _, codeAny_builtin F.entry_tuple_new ?_⟩))
  rw [Around.under_plainId F.plain_tuple_new _]
  have hsub := sub_tuple_self
  have hinit := init_tuple_lookup
  have hmh := madeHere_tuple
  have hTI : s.TypeIs (.ref a) "dict" := K.type s ok
  have hh1 : A.in1.handled = none := hh
  wp_walk using wpAny_typeOf hTI, PySem.W.kdu_collect (A := A.in1) K hh1 ok hn
  intro h' tk acc hk hacc
  show wpAny _ _ (Builtin.Tuple.tupleExact acc.toList.toArray >>= fun v => ret v) _ _ _
  unfold Builtin.Tuple.tupleExact
  refine wpAny_bind (wpAny_newObj_type ?_ (by show acc.toList.toArray.size ≤ sizeLine; simp only [Array.toArray_toList]; rw [hacc.1]; exact hn))
  refine wpAny_pure ?_
  have e : acc.toList.toArray = acc := by simp
  rw [e]
  exact h h' tk acc hk hacc
theorem call_tuple_dic {Q : Value → Shared → Prop} (K : PySem.W.KdlSrc prog w "dict" a a n P OK) (hh : A.handled = none) (ok : OK s.heap) (hn : n ≤ sizeLine)
    (hQ : ∀ (h' : Heap) (tk : Nat) (acc : Array Value), (∀ b o, s.heap.get? b = some o → h'.get? b = some o) → ItemsOf P acc n →
      Q (.ref h'.objs.size) { s with heap := h'.push { cls := .type "tuple", data := .seq acc }, toks := tk }) : wpAny (model prog w) A (call (.type "tuple") [.ref a]) Q E s := by
  refine callType_codes (Q₁ := fun obj s₁ => s₁.TypeIs obj "tuple" ∧ Q obj s₁) F.called_tuple (F.typeCall_tuple_1 _) F.entry_object_init
    (code_tuple_dic (A := A.in1) K hh ok hn fun h' tk acc hk hacc => ⟨⟨_, Heap.get?_push_size _ rfl, rfl⟩, hQ h' tk acc hk hacc⟩) fun obj s₁ h₁ => ?_
  exact ⟨h₁.1, F.args_object_init_2 obj _, object_init_meets F.called_tuple.init.lookup F.called_tuple.made (by decide) prog w A.in1 _ s₁ ⟨h₁.1, rfl, h₁.2⟩⟩
end
theorem call_tupleDic {X : Cx} (hc : X.calm = true) : CallR X (.type "tuple") (rDicCol X.px .tup) := by
  intro pins s σ H xs us Q I r h
  obtain ⟨Fz, a, d, ks, vs, ex, rfl, D, q⟩ := h
  obtain ⟨u, rfl, rx⟩ := vals1 r
  obtain rfl : u = Value.ref a := rx
  obtain ⟨OK, P, K, ok, hz, hp⟩ := dic_src I ex D
  refine call_tuple_dic K (I.ok.hd hc) ok hz fun h' tk acc hk hacc => ?_
  obtain ⟨ys, hv, hd⟩ := dic_items hp hacc
  have hl : ys.length = ks.length := by rw [hd.length, List.length_map]
  have I1 : Inv X pins σ H { s with heap := h', toks := tk } := I.kept hk
  exact ⟨.ref h'.objs.size, upd H h'.objs.size (.tup ys), I1.laid (t' := tk) (fun _ _ q => Heap.get?_push_of_some _ q) (Nat.le_refl _) (show ObjOk X.prog X.w _ _ _ (.tup ys) from ⟨by rw [hl]; exact hz, acc.toList, hv, _, Heap.get?_push_size _ rfl, rfl, 0, by simp⟩), rfl, q _ _ (I1.hok.fresh (Nat.le_refl _)) hd⟩

/-! ### sorted -/
open PySem.W (AllAlike Sortable dataLe EachIs sorted_data list_sort_data)
theorem each_both {α β : Type} {R R' : α → β → Prop} : ∀ {us : List α} {l : List β}, EachIs R us l → (∀ p ∈ l, ∀ u, R u p → R' u p) → EachIs R' us l
  | _, _, .nil, _ => .nil
  | _, _, .cons r rs, h => .cons (h _ (List.mem_cons_self ..) _ r) (each_both rs fun p m => h p (List.mem_cons_of_mem _ m))
def SortOk (ds : List PyData) : Prop := AllAlike ds ∧ Sortable ds ∧ ds.length ≤ sizeLine ∧ ∀ d ∈ ds, d.depth ≤ 58
abbrev sortD (ds : List PyData) : List PyData := ds.mergeSort (dataLe false id)
theorem sort_pairs {K : PySem.W.Frag} {Fz : Hp} {ps : List (V × PyData)} {out : List Value} (hd : ∀ p ∈ ps, Dv K Fz p.1 p.2) (h : EachIs (fun (u : Value) (p : V × PyData) => RelV p.1 u) out (ps.mergeSort (dataLe false (·.2)))) :
    ∃ zs, Vals zs out ∧ Dvs K Fz zs (sortD (ps.map (·.2))) ∧ zs.length = ps.length := by
  have hm : (ps.mergeSort (dataLe false (·.2))).map (·.2) = sortD (ps.map (·.2)) := List.map_mergeSort fun a _ b _ => rfl
  refine ⟨(ps.mergeSort (dataLe false (·.2))).map (·.1), ?_, ?_, by rw [List.length_map, List.length_mergeSort]⟩
  · revert h
    generalize ps.mergeSort (dataLe false (·.2)) = l
    intro h
    induction h with
    | nil => exact .nil
    | cons r _ ih => exact .cons r ih
  · rw [← hm]
    have hp : ∀ p ∈ ps.mergeSort (dataLe false (·.2)), Dv K Fz p.1 p.2 := fun p m => hd p ((List.mergeSort_perm _ _).mem_iff.mp m)
    revert hp
    generalize ps.mergeSort (dataLe false (·.2)) = l
    intro hp
    clear h hm
    induction l with
    | nil => exact .nil
    | cons p l ih => exact .cons (hp p (List.mem_cons_self ..)) (ih fun q m => hp q (List.mem_cons_of_mem _ m))
theorem zip_dvs {K : PySem.W.Frag} {Fz : Hp} : ∀ {ys : List V} {ds : List PyData}, Dvs K Fz ys ds → (∀ p ∈ ys.zip ds, Dv K Fz p.1 p.2) ∧ (ys.zip ds).map (·.2) = ds ∧ (ys.zip ds).map (·.1) = ys ∧ (ys.zip ds).length = ds.length
  | _, [], h => by
    cases h
    exact ⟨(fun _ m => nomatch m), rfl, rfl, rfl⟩
  | _, d :: ds, h => by
    cases h with
    | cons h1 h2 =>
      obtain ⟨g1, g2, g3, g4⟩ := zip_dvs h2
      refine ⟨fun p m => ?_, ?_, ?_, ?_⟩
      · rcases List.mem_cons.mp m with rfl | m
        · exact h1
        · exact g1 p m
      · rw [List.zip_cons_cons, List.map_cons, g2]
      · rw [List.zip_cons_cons, List.map_cons, g3]
      · rw [List.zip_cons_cons, List.length_cons, g4, List.length_cons]
theorem each_vals {X : Cx} {pins : List (Addr × Obj)} {σ : L2.St} {H Fz : Hp} {s : Shared} (I : Inv X pins σ H s) (ex : Ex Fz H) : ∀ {ys : List V} {us : List Value} {ds : List PyData}, Vals ys us → Dvs X.K Fz ys ds →
    EachIs (fun (u : Value) (p : V × PyData) => RelV p.1 u) us (ys.zip ds) ∧ EachIs (fun (u : Value) (p : V × PyData) => ∃ as, Reads s.heap u p.2 as) us (ys.zip ds)
  | _, _, [], .nil, h => by cases h; exact ⟨.nil, .nil⟩
  | _, _, [], .cons _ _, h => by cases h
  | _, _, d :: ds, .nil, h => by cases h
  | _, _, d :: ds, .cons r rs, h => by
    cases h with
    | cons h1 h2 =>
      obtain ⟨g1, g2⟩ := each_vals I ex rs h2
      exact ⟨.cons r g1, .cons (Dp.reads I _ _ _ ((dp_mono ex _ _ h1).dp _) r) g2⟩
def rSortL (Z : Px) : List V → Hp → VK → Prop := fun xs H Q => ∃ (Fz : Hp) (a : Addr) (ys : List V) (ds : List PyData), Ex Fz H ∧ xs = [.ref a] ∧ SqL Z.K H a ys ∧ Dvs Z.K Fz ys ds ∧ SortOk ds ∧
  ∀ l zs, H l = none → Dvs Z.K Fz zs (sortD ds) → Q (.ref l) (upd H l (.lst zs))
def rSortDic (Z : Px) : List V → Hp → VK → Prop := fun xs H Q => ∃ (Fz : Hp) (a : Addr) (d : Bool) (ks : List NestedKey) (vs : List V), Ex Fz H ∧ xs = [.ref a] ∧ DicAt Z Fz H a d ks vs ∧ SortOk (ks.map NestedKey.data) ∧
  ∀ l zs, H l = none → Dvs Z.K Fz zs (sortD (ks.map NestedKey.data)) → Q (.ref l) (upd H l (.lst zs))
mutual
theorem keyReads {h : Heap} : ∀ (k : NestedKey) (u : Value) (as : List Addr), Reads h u k.data as → as = []
  | .none, u, as, r => by cases (show Reads h u .none as from r); rfl
  | .num i, u, as, r => by cases (show Reads h u (.int i) as from r); rfl
  | .text x, u, as, r => by cases (show Reads h u (.str x) as from r); rfl
  | .tup ks, u, as, r => by
    cases (show Reads h u (.tuple (NestedKey.datas ks)) as from r) with
    | tuple h1 h2 h3 h4 => exact keyReadsAll ks _ _ h4
theorem keyReadsAll {h : Heap} : ∀ (ks : List NestedKey) (us : List Value) (as : List Addr), ReadsAll h us (NestedKey.datas ks) as → as = []
  | [], us, as, r => by cases (show ReadsAll h us [] as from r); rfl
  | k :: ks, us, as, r => by
    cases (show ReadsAll h us (k.data :: NestedKey.datas ks) as from r) with
    | cons h1 h2 => rw [keyReads k _ _ h1, keyReadsAll ks _ _ h2]; rfl
end
section
variable {X : Cx}
theorem call_sortL (hu : X.A.units + 64 < cLine) : CallR X (.builtin "sorted") (rSortL X.px) := by
  intro pins s σ H xs us Q I r h
  obtain ⟨Fz, a, ys, ds, ex, rfl, hq, hd, ⟨ha, hk, hz, hdep⟩, q⟩ := h
  obtain ⟨u, rfl, rx⟩ := vals1 r
  obtain rfl : u = Value.ref a := rx
  obtain ⟨its, rv, ht, hzz⟩ := I.list hq
  obtain ⟨g1, g2, g3, g4⟩ := zip_dvs hd
  obtain ⟨e1, e2⟩ := each_vals I ex rv hd
  refine sorted_data (bs := ys.zip ds) (enc := (·.2)) (R := fun u p => RelV p.1 u) ht.isList e1 e2 (by rw [g2]; exact ha) (by rw [g2]; exact hk) (by rw [g4]; exact hz) (fun p m => ?_) fun out ho eo => ?_
  · have := hdep p.2 (by rw [← g2]; exact List.mem_map.mpr ⟨p, m, rfl⟩)
    omega
  · obtain ⟨zs, z1, z2, z3⟩ := sort_pairs g1 eo
    rw [g2] at z2
    obtain ⟨e', he'⟩ := PyProof.Rows.sortedAll_at s.heap its out.toArray
    have hf : H (s.heap.objs.size + 1) = none := I.hok.fresh (Nat.le_succ _)
    refine ⟨.ref (s.heap.objs.size + 1), upd H (s.heap.objs.size + 1) (.lst zs), I.laid (t' := s.toks) (fun b u e => PyProof.Rows.sortedAll_old e) (Nat.le_succ _) (show ObjOk X.prog X.w _ _ _ (.lst zs) from ⟨by rw [z3, g4]; exact hz, out, e', z1, by exact he'⟩), rfl, q _ _ hf z2⟩
theorem call_sortDic (hc : X.calm = true) (hu : X.A.units + 64 < cLine) : CallR X (.builtin "sorted") (rSortDic X.px) := by
  intro pins s σ H xs us Q I r h
  obtain ⟨Fz, a, d, ks, vs, ex, rfl, D, ⟨ha, hk, hz, hdep⟩, q⟩ := h
  obtain ⟨u, rfl, rx⟩ := vals1 r
  obtain rfl : u = Value.ref a := rx
  obtain ⟨OK, P, K, ok, hz2, hp⟩ := dic_src I ex D
  refine Calls.call_function_entry PyProof.Rows.kind_sorted PyProof.Rows.plain_sorted PyProof.Rows.entry_sorted (PyProof.Rows.args_sorted1 _) ?_
  unfold Builtin.«sorted»
  refine wpAny_bind (m := checkCount "sorted" 1 1 _) (wpAny_pure ?_)
  refine wpAny_bind (PySem.W.kdu_collect (A := X.A.in1) K (I.ok.hd hc) ok hz2 fun h' tk acc hk' hacc => ?_)
  obtain ⟨ys, hv, hd⟩ := dic_items hp hacc
  have hal : acc.toList.length = ks.length := by rw [Array.length_toList, hacc.1]
  have I1 : Inv X pins σ H { s with heap := h', toks := tk } := I.kept hk'
  refine wpAny_bind (wpAny_newList ?_ (by rw [hal]; exact hz2))
  have hoL : (h'.push (seqObj "list" acc.toList.toArray 0)).get? h'.objs.size = some (seqObj "list" acc.toList.toArray 0) := Heap.get?_push_size _ rfl
  show wpAny _ _ _ _ _ { s with heap := h'.push (seqObj "list" acc.toList.toArray 0), toks := tk }
  obtain ⟨g1, g2, g3, g4⟩ := zip_dvs hd
  have I2 : Inv X pins σ H { s with heap := h'.push (seqObj "list" acc.toList.toArray 0), toks := tk } := I1.kept (t' := tk) fun _ _ q => Heap.get?_push_of_some _ q
  obtain ⟨e1, e2⟩ := each_vals I2 ex hv hd
  have e3 : EachIs (fun (u : Value) (p : V × PyData) => ∃ as, Reads (h'.push (seqObj "list" acc.toList.toArray 0)) u p.2 as ∧ h'.objs.size ∉ as) acc.toList (ys.zip (ks.map NestedKey.data)) := by
    have hmem : ∀ p ∈ ys.zip (ks.map NestedKey.data), ∃ k : NestedKey, p.2 = k.data := fun p m => by
      have : p.2 ∈ ks.map NestedKey.data := by rw [← g2]; exact List.mem_map.mpr ⟨p, m, rfl⟩
      obtain ⟨k, _, e⟩ := List.mem_map.mp this
      exact ⟨k, e.symm⟩
    refine each_both e2 fun p m u ⟨as, rd⟩ => ⟨as, rd, ?_⟩
    obtain ⟨k, ek⟩ := hmem p m
    rw [ek] at rd
    rw [keyReads k u as rd]
    exact fun z => nomatch z
  refine wpAny_bind (wpAny_holding (list_sort_data (s := { s with heap := h'.push (seqObj "list" acc.toList.toArray 0), toks := tk }) (bs := ys.zip (ks.map NestedKey.data)) (enc := (·.2)) (R := fun u p => RelV p.1 u) hoL e1 e3 (by rw [g2]; exact ha) (by rw [g2]; exact hk) (by rw [g4]; exact hz) (fun p m => ?_) fun out ho eo => ?_))
  · have := hdep p.2 (by rw [← g2]; exact List.mem_map.mpr ⟨p, m, rfl⟩)
    show X.A.units + 1 + 1 + p.2.depth < cLine
    omega
  · obtain ⟨zs, z1, z2, z3⟩ := sort_pairs g1 eo
    rw [g2] at z2
    obtain ⟨e', he'⟩ := PyProof.Rows.sortedHeap_at (vs := acc.toList) (out := out.toArray) hoL
    refine wpAny_pure ⟨_, rfl, .ref h'.objs.size, upd H h'.objs.size (.lst zs), I1.laid (t' := tk) (fun b u e => ?_) (Nat.le_refl _)
      (show ObjOk X.prog X.w _ _ _ (.lst zs) from ⟨by rw [z3, g4]; exact hz, out, e', z1, by exact he'⟩), rfl, q _ _ (I1.hok.fresh (Nat.le_refl _)) z2⟩
    have hb : b < h'.objs.size := Heap.lt_size e
    rw [PyProof.Rows.sortedHeap_old (Nat.ne_of_lt hb) (by rw [size_push']; exact Nat.lt_succ_of_lt hb)]
    exact Heap.get?_push_of_some _ e
end
end DL

set_option maxRecDepth 100000
namespace DL
open PySem PySem.Spec PyProof.Rows L2
open Evl (Ex Ex.refl Ex.trans Ex.new Ex.mut ex_l ex_t ex_rd fresh_back)

/-! ### things with keys -/
/-- any iterable of data -/
def T.sqK : T → Option (List PyData)
  | .nd (.dic _ ks) _ => some (ks.map NestedKey.data)
  | x => x.sqD
theorem sqK_cases {a : A} {xs : List PyData} (h : a.er.sqK = some xs) : a.er.sqD = some xs ∨ ∃ p dx d ks ts, a = .nd p dx (.dic d ks) ts ∧ xs = ks.map NestedKey.data := by
  cases a with
  | dat x => exact .inl h
  | scr ns => exact .inl h
  | nd p dx k ts =>
    cases k with
    | lst => exact .inl h
    | ins C fs => exact .inl h
    | dic d ks => cases h; exact .inr ⟨p, dx, d, ks, ts, rfl, rfl⟩
theorem adss_len {ts : List A} : (A.ers ts).length = ts.length := by rw [A.ers_eq, List.length_map]
def fTup : F1 := fun x Q => asO x.sqK fun xs => Q (.dat (.tuple xs))
def fLst : F1 := fun x Q => asO x.sqK fun xs => Q (lstT xs)
/-- a list, a dict -/
def T.lsK : T → Option (List PyData)
  | .dat (.list xs) => some xs
  | .scr ns => some (ns.map PyData.int)
  | .nd .lst ts => T.pls ts
  | .nd (.dic _ ks) _ => some (ks.map NestedKey.data)
  | _ => none
theorem lsK_cases {a : A} {xs : List PyData} (h : a.er.lsK = some xs) : (a.er.sqD = some xs ∧ ∀ ys, a.er ≠ .dat (.tuple ys)) ∨ ∃ p dx d ks ts, a = .nd p dx (.dic d ks) ts ∧ xs = ks.map NestedKey.data := by
  cases a with
  | dat x =>
    cases x with
    | list ys => exact .inl ⟨h, fun _ e => nomatch e⟩
    | _ => cases h
  | scr ns => exact .inl ⟨h, fun _ e => nomatch e⟩
  | nd p dx k ts =>
    cases k with
    | lst => exact .inl ⟨h, fun _ e => nomatch e⟩
    | ins C fs => cases h
    | dic d ks => cases h; exact .inr ⟨p, dx, d, ks, ts, rfl, rfl⟩
def fSort : F1 := fun x Q => asO x.lsK fun xs => SortOk xs ∧ Q (lstT (sortD xs))
def fLen : F1 := fun x Q => match x with
  | .nd (.dic _ ks) _ => Q (.dat (.int ks.length))
  | x => asIt x fun xs => Q (.dat (.int xs.length))
section
variable {Z : Px} {X : Cx} {a b : Expr} {pos p : Pos}
theorem op1_tupK : Op1 Z (fun v H Q => (∃ p ys, [v] = [.ref p] ∧ ((SqL Z.K H p ys ∧ ∀ l, H l = none → Q (.ref l) (upd H l (.tup ys))) ∨ (SqT Z.K H p ys ∧ Q (.ref p) H))) ∨ rDicCol Z .tup [v] H Q) fTup := by
  intro σ H Q Fz ev F a v R S oa h k
  obtain ⟨xs, e, h⟩ := asO_of h
  rcases sqK_cases e with e | ⟨p, dx, d, ks, ts, rfl, rfl⟩
  · exact .inl (op1_tup σ H Q Fz ev F a v R S oa (by show asO _ _; rw [e]; exact h) k)
  · obtain ⟨rfl, vs, n, os⟩ := oa
    refine .inr ⟨Fz, p, d, ks, vs, S.ex, rfl, n, fun l ys hf hd => ?_⟩
    obtain ⟨g1, g2, g3⟩ := S.newT hf hd
    exact k _ _ _ (.dat (.tuple _)) h g1 g2 g3
theorem op1_lstK : Op1 Z (fun v H Q => (∃ p ys, [v] = [.ref p] ∧ (SqL Z.K H p ys ∨ SqT Z.K H p ys) ∧ ∀ l, H l = none → Q (.ref l) (upd H l (.lst ys))) ∨ rDicCol Z .lst [v] H Q) fLst := by
  intro σ H Q Fz ev F a v R S oa h k
  obtain ⟨xs, e, h⟩ := asO_of h
  rcases sqK_cases e with e | ⟨p, dx, d, ks, ts, rfl, rfl⟩
  · exact .inl (op1_lst σ H Q Fz ev F a v R S oa (by show asO _ _; rw [e]; exact h) k)
  · obtain ⟨rfl, vs, n, os⟩ := oa
    refine .inr ⟨Fz, p, d, ks, vs, S.ex, rfl, n, fun l ys hf hd => ?_⟩
    obtain ⟨g2, g3⟩ := S.newL hf hd
    exact k _ _ _ _ (by rw [er_lstT]; exact h) (Ex.refl _) g2 g3
theorem op1_sort : Op1 Z (fun v H Q => rSortL Z [v] H Q ∨ rSortDic Z [v] H Q) fSort := by
  intro σ H Q Fz ev F a v R S oa h k
  obtain ⟨xs, e, so, h⟩ := asO_of h
  rcases lsK_cases e with ⟨e, hne⟩ | ⟨p, dx, d, ks, ts, rfl, rfl⟩
  · obtain ⟨p, vs, rfl, hs, d⟩ := sqD_of e S.ex oa
    rcases hs with ⟨h1, _⟩ | ⟨_, _, h3⟩
    · refine .inl ⟨Fz, p, vs, xs, S.ex, rfl, h1, d, so, fun l zs hf hd => ?_⟩
      obtain ⟨g2, g3⟩ := S.newL hf hd
      exact k _ _ _ _ (by rw [er_lstT]; exact h) (Ex.refl _) g2 g3
    · exact absurd h3 (hne _)
  · obtain ⟨rfl, vs, n, os⟩ := oa
    refine .inr ⟨Fz, p, d, ks, vs, S.ex, rfl, n, so, fun l ys hf hd => ?_⟩
    obtain ⟨g2, g3⟩ := S.newL hf hd
    exact k _ _ _ _ (by rw [er_lstT]; exact h) (Ex.refl _) g2 g3
theorem op1_lenK : Op1 Z (fun v H Q => (∃ x n, [v] = [x] ∧ LenV Z.K x H n ∧ Q (.int n) H) ∨ rDicLen Z [v] H Q) fLen := by
  intro σ H Q Fz ev F a v R S oa h k
  have old : (asIt a.er fun xs => R (.dat (.int xs.length))) → (∃ x n, [v] = [x] ∧ LenV Z.K x H n ∧ Q (.int n) H) := fun h => by
    obtain ⟨as, e, h⟩ := asIt_of h
    obtain ⟨p, vs, rfl, hs, os⟩ := items_of e S.ex oa
    have hl : (A.ers as).length = vs.length := by rw [A.ers_eq, List.length_map, os.length]
    refine ⟨.ref p, vs.length, rfl, ?_, ?_⟩
    · rcases hs with h1 | h1
      · exact .inl ⟨vs, h1, rfl⟩
      · exact .inr ⟨vs, h1, rfl⟩
    · exact k _ H Fz (.dat (.int vs.length)) (by rw [← hl]; exact h) (Ex.refl _) (Ex.refl _) (S.pushD (.int _))
  cases a with
  | dat x => exact .inl (old h)
  | scr ns => exact .inl (old h)
  | nd p dx kd ts =>
    cases kd with
    | lst => exact .inl (old h)
    | ins C fs => exact .inl (old h)
    | dic d ks =>
      obtain ⟨rfl, vs, n, os⟩ := oa
      exact .inr ⟨p, d, ks, vs, rfl, DicAt.up S.ex n, k _ H Fz (.dat (.int ks.length)) h (Ex.refl _) (Ex.refl _) (S.pushD (.int _))⟩
theorem u_tup (hc : X.calm = true) (hm : X.mg "tuple" = none) (hg : Gl X "tuple") (na : starEach [a] X.env = (false, eval a X.env) :: starEach [] X.env := by rfl) : UR X a (.Call (.Name "tuple" p) [a] [] pos) fTup := ut (cr_or call_tuple_of (call_tupleDic hc)) op1_tupK hm rfl hg (na := na)
theorem u_lst (hc : X.calm = true) (hm : X.mg "list" = none) (hg : Gl X "list") (na : starEach [a] X.env = (false, eval a X.env) :: starEach [] X.env := by rfl) : UR X a (.Call (.Name "list" p) [a] [] pos) fLst := ut (cr_or call_list_of (call_listDic hc)) op1_lstK hm rfl hg (na := na)
theorem u_sort (hc : X.calm = true) (hu : X.A.units + 64 < cLine) (hm : X.mg "sorted" = none) (hg : Gl X "sorted") (na : starEach [a] X.env = (false, eval a X.env) :: starEach [] X.env := by rfl) : UR X a (.Call (.Name "sorted" p) [a] [] pos) fSort := ub (cr_or (call_sortL hu) (call_sortDic hc hu)) op1_sort hm rfl hg (na := na)
theorem u_lenK (hm : X.mg "len" = none) (hg : Gl X "len") (na : starEach [a] X.env = (false, eval a X.env) :: starEach [] X.env := by rfl) : UR X a (.Call (.Name "len" p) [a] [] pos) fLen := ub (cr_or call_len call_lenDic) op1_lenK hm boot_len hg (na := na)
end

/-! ### x in y -/
def flatD : PyData → Bool
  | .none => true
  | .bool _ => true
  | .int _ => true
  | .str _ => true
  | _ => false
def InOk (y : T) (c : PyData) (xs : List PyData) : Prop := (flatD c = true ∧ xs.all flatD = true) ∨ ((∃ t, y.lsD = some t) ∧ SeqAt.shaped c = true ∧ SeqAt.shaped (.list xs) = true)
def fIn (neg : Bool) : F2 := fun x y Q => match y with
  | .nd (.dic d ks) _ => ∃ c k, x = .dat c ∧ KeyOk d c k ∧ Q (.dat (.bool (if neg then !decide (k ∈ ks) else decide (k ∈ ks))))
  | y => asD x fun c => asO y.sqD fun xs => InOk y c xs ∧ Q (.dat (.bool (if neg then !(xs.any fun z => PyData.eqv z c) else xs.any fun z => PyData.eqv z c)))
theorem flat_v {K : PySem.W.Frag} {H : Hp} {v : V} {c : PyData} (h : Dv K H v c) (f : flatD c = true) : flatV v = true := by
  cases h <;> first | rfl | cases f
theorem flat_eq {K : PySem.W.Frag} {H H' : Hp} {v u : V} {c e : PyData} (h : Dv K H v c) (h' : Dv K H' u e) (f : flatD c = true) (f' : flatD e = true) : eqV v u = PyData.eqv c e := by
  cases h <;> first
    | (cases h' <;> first | rfl | cases f' | (simp only [eqV, PyData.eqv]))
    | cases f
theorem flat_all {K : PySem.W.Frag} {H : Hp} : ∀ {vs : List V} {xs : List PyData}, Dvs K H vs xs → xs.all flatD = true → vs.all flatV = true
  | _, [], h, _ => by cases h; rfl
  | _, x :: xs, h, f => by
    cases h with
    | cons h1 h2 =>
      rw [List.all_cons, Bool.and_eq_true] at f ⊢
      exact ⟨flat_v h1 f.1, flat_all h2 f.2⟩
theorem flat_any {K : PySem.W.Frag} {H H' : Hp} {u : V} {c : PyData} (hc : Dv K H' u c) (fc : flatD c = true) : ∀ {vs : List V} {xs : List PyData}, Dvs K H vs xs → xs.all flatD = true → inV u vs = xs.any fun z => PyData.eqv z c
  | _, [], h, _ => by cases h; rfl
  | _, x :: xs, h, f => by
    cases h with
    | cons h1 h2 =>
      rw [List.all_cons, Bool.and_eq_true] at f
      have ih := flat_any hc fc h2 f.2
      unfold inV at ih ⊢
      rw [List.any_cons, List.any_cons, ih, flat_eq h1 hc f.1 fc]
theorem lsD_sqD {x : T} {t : List PyData} (h : x.lsD = some t) : x.sqD = some t := by
  cases x with
  | dat x => cases x <;> first | exact h | cases h
  | scr ns => cases h
  | nd k ts => cases k <;> first | exact h | cases h
section
variable {Z : Px} {X : Cx} {a b : Expr} {pos p : Pos}
def rInX (Z : Px) (neg : Bool) : R2 := fun x y H Q => rIn Z.K neg x y H Q ∨ (if neg then rNotInD Z.K x y H Q else rInD Z.K x y H Q) ∨ rDicIn Z neg x y H Q
theorem op2_in {neg : Bool} : Op2 Z (rInX Z neg) (fIn neg) := by
  intro σ H Q Fz ev F a b v u R S oa ob h k
  have old : (asD a.er fun c => asO b.er.sqD fun xs => InOk b.er c xs ∧ R (.dat (.bool (if neg then !(xs.any fun z => PyData.eqv z c) else xs.any fun z => PyData.eqv z c)))) → rInX Z neg v u H Q := fun h => by
    obtain ⟨c, ec, dc, h⟩ := asD_of h S.ex oa
    obtain ⟨xs, e, io, h⟩ := asO_of h
    have fin : Q (.bl (if neg then !(xs.any fun z => PyData.eqv z c) else xs.any fun z => PyData.eqv z c)) H := k _ H Fz (.dat (.bool _)) h (Ex.refl _) (Ex.refl _) (S.pushD (.bl _))
    rcases io with ⟨f1, f2⟩ | ⟨⟨t, ht⟩, s1, s2⟩
    · obtain ⟨p, vs, rfl, hs, d⟩ := sqD_of e S.ex ob
      have dH : Dvs Z.K H vs xs := dps_mono S.ex _ _ d
      refine .inl ⟨p, vs, rfl, hs.elim (fun h => .inl h.1) (fun h => .inr h.1), flat_v dc f1, flat_all dH f2, ?_⟩
      have ei := flat_any dc f1 dH f2
      rw [ei]
      exact fin
    · have et : t = xs := Option.some.inj ((lsD_sqD ht).symm.trans e)
      subst et
      obtain ⟨p, vs, rfl, hl, d⟩ := lsD_of ht S.ex ob
      have dH : Dvs Z.K H vs t := dps_mono S.ex _ _ d
      refine .inr (.inl ?_)
      cases neg with
      | false => exact ⟨c, t, dc.dp, .lst (.inl (.inl hl)) (dH.dps), s1, s2, fin⟩
      | true => exact ⟨c, t, dc.dp, .lst (.inl (.inl hl)) (dH.dps), s1, s2, fin⟩
  cases b with
  | dat x => exact old h
  | scr ns => exact old h
  | nd p dx kd ts =>
    cases kd with
    | lst => exact old h
    | ins C fs => exact old h
    | dic d ks =>
      obtain ⟨c, kk, ec, ko, h⟩ := h
      have ec := er_dat ec
      subst ec
      obtain ⟨rfl, vs, n, os⟩ := ob
      exact .inr (.inr ⟨Fz, p, d, ks, vs, c, kk, S.ex, rfl, n, oa, ko, k _ H Fz (.dat (.bool _)) h (Ex.refl _) (Ex.refl _) (S.pushD (.bl _))⟩)
theorem op_inX (hu : X.A.units + 65 < cLine) : OpR X (compareOp .In) (rInX X.px false) := op_or op_in_seq (op_or (op_inD hu) (op_inDic (by omega)))
theorem op_notInX (hu : X.A.units + 65 < cLine) : OpR X (compareOp .NotIn) (rInX X.px true) := op_or op_notIn_seq (op_or (op_notInD hu) (op_notInDic (by omega)))
theorem c_in (hu : X.A.units + 65 < cLine) (hm : behindInMarks .In b = false := by rfl) : CR X a b (.Compare a [.In] [b] pos) (fIn false) := ⟨_, op2_in, fun _ _ g g' => pe_cmpR (op_inX hu) g g' hm, fun _ _ g g' => pt_cmpR (op_inX hu) g g' hm⟩
theorem c_notin (hu : X.A.units + 65 < cLine) (hm : behindInMarks .NotIn b = false := by rfl) : CR X a b (.Compare a [.NotIn] [b] pos) (fIn true) := ⟨_, op2_in, fun _ _ g g' => pe_cmpR (op_notInX hu) g g' hm, fun _ _ g g' => pt_cmpR (op_notInX hu) g g' hm⟩
end

/-! ### x[i] -/
def fAt (x y : T) (Q : Nat → T → Prop) : Prop := match x with
  | .nd (.dic d ks) ts => ∃ c k i t, y = .dat c ∧ KeyOk d c k ∧ ks[i]? = some k ∧ ts[i]? = some t ∧ Q i t
  | x => asI y fun i => asIt x fun its => ∃ j t, ixN its.length i = some j ∧ its[j]? = some t ∧ Q j t
def uIx (w w' : WU) : WU := fun en Q => w en fun x => w' en fun y => fAt x y fun _ t => Q t
def rAt (Z : Px) : R2 := fun x y H Q => rIx Z.K x y H Q ∨ rDicGet Z x y H Q
theorem ix_or {X : Cx} {r r' : R2} (h : IxR X r) (h' : IxR X r') : IxR X (fun x y H Q => r x y H Q ∨ r' x y H Q) := fun value slice pins s σ H x y v u Q I rx ry q hs => q.elim (fun q => h value slice pins s σ H x y v u Q I rx ry q hs) (fun q => h' value slice pins s σ H x y v u Q I rx ry q hs)
theorem DicAt.len {Z : Px} {Fz H : Hp} {a : Addr} {d : Bool} {ks : List NestedKey} {vs : List V} (D : DicAt Z Fz H a d ks vs) : ks.length = vs.length := by
  cases D <;> simp
theorem at_of {Z : Px} {Fz H : Hp} {a b : A} {v u : V} {R : Nat → T → Prop} {Q : VK} (ex : Ex Fz H) (oa : Own Z Fz H a v) (ob : Own Z Fz H b u) (h : fAt a.er b.er R)
    (k : ∀ i t w, R i t.er → (∀ p dx kd ts, a = .nd p dx kd ts → ts[i]? = some t) → Own Z Fz H t w → Q w H) : rAt Z v u H Q := by
  have old : (asI b.er fun i => asIt a.er fun its => ∃ j t, ixN its.length i = some j ∧ its[j]? = some t ∧ R j t) → rAt Z v u H Q := fun h => by
    obtain ⟨i, rfl, rfl, h⟩ := asI_of h ob
    obtain ⟨as, e, j, t, hj, ht, h⟩ := asIt_of h
    obtain ⟨p, vs, rfl, hs, os⟩ := items_of e ex oa
    rw [A.ers_get] at ht
    cases ha : as[j]? with
    | none => rw [ha] at ht; cases ht
    | some t' =>
      rw [ha] at ht
      cases ht
      obtain ⟨w, g1, g2⟩ := os.at ha
      have hat : atI vs i = some w := by
        unfold atI
        rw [← os.length, ← adss_len, hj]
        exact g1
      have q : Q w H := k j t' w h (fun p dx kd ts ea => by
        subst ea
        cases kd with
        | lst => cases e; exact ha
        | dic d ks => cases e
        | ins C fs => cases e) g2
      rcases hs with h1 | h1
      · exact .inl (.inl ⟨p, vs, i, w, rfl, rfl, h1, hat, q⟩)
      · exact .inl (.inr (.inl ⟨p, vs, i, w, rfl, rfl, h1, hat, q⟩))
  cases a with
  | dat x => exact old h
  | scr ns => exact old h
  | nd p dx kd ts =>
    cases kd with
    | lst => exact old h
    | ins C fs => exact old h
    | dic d ks =>
      obtain ⟨c, kk, i, t, ec, ko, hk, ht, h⟩ := h
      have ec := er_dat ec
      subst ec
      obtain ⟨rfl, vs, n, os⟩ := oa
      rw [A.ers_get] at ht
      cases ha : ts[i]? with
      | none => rw [ha] at ht; cases ht
      | some t' =>
        rw [ha] at ht
        cases ht
        obtain ⟨w, g1, g2⟩ := os.at ha
        exact .inr ⟨Fz, p, d, ks, vs, c, kk, i, w, ex, rfl, n, ob, ko, hk, g1, k i t' w h (fun p' dx' kd' ts' e => by cases e; exact ha) g2⟩
section
variable {X : Cx} {a b e : Expr} {pos p p2 : Pos} {w w' : WU}
theorem du_ix (hu : X.A.units + 64 < cLine) (h : DU X a w) (h' : DU X b w') (hs : PlainIx b := by intro _ _; rfl) : DU X (.Subscript a b pos) (uIx w w') := by
  obtain ⟨t, h1, h2⟩ := h
  obtain ⟨t', h3, h4⟩ := h'
  refine ⟨_, pe_ix (ix_or ix_seq (ix_dic hu)) h1 h3 hs, fun σ H Q Fz ev F R S hw k => ?_⟩
  refine h2 σ H _ Fz ev F _ S hw fun v H1 Fz1 ar r1 ef1 eh1 S1 o1 => ?_
  refine h4 σ H1 _ Fz1 ev F _ S1 r1 fun u H2 Fz2 br r2 ef2 eh2 S2 o2 => ?_
  exact at_of S2.ex (o1.ext ef2 eh2) o2 r2 fun i t w r3 _ o3 => k w H2 Fz2 t r3 (ef1.trans ef2) (eh1.trans eh2) S2 o3

/-! ### slices -/
def cut {α : Type} (xs : List α) (lo hi : Option Int) : List α := (xs.drop (HT.sIx xs.length 0 lo)).take (HT.sIx xs.length xs.length hi - HT.sIx xs.length 0 lo)
abbrev WO := En → (Option Int → Prop) → Prop
def EvO (Z : Px) (t : TO) (w : WO) : Prop := ∀ (σ : L2.St) (H : Hp) (Q : Option Int → Hp → Prop) (Fz : Hp) (ev : AEn) (F : Fr) (R : Option Int → Prop), SA Z Fz H σ ev F → w (AEn.er ev) R →
  (∀ o H' Fz', R o → Ex Fz Fz' → Ex H H' → SA Z Fz' H' σ ev F → Q o H') → t σ H Q
structure DO (X : Cx) (e : Option Expr) (w : WO) : Prop where
  ex : ∃ t, PO X e t ∧ EvO X.px t w
def oNone : WO := fun _ Q => Q none
def oSome (w : WU) : WO := fun en Q => w en fun y => asI y fun i => Q (some i)
theorem do_none : DO X none oNone := ⟨_, po_none, fun σ H Q Fz ev F R S hw k => k none H Fz hw (Ex.refl _) (Ex.refl _) S⟩
theorem do_some (h : DU X a w) : DO X (some a) (oSome w) := by
  obtain ⟨t, h1, h2⟩ := h
  refine ⟨_, po_some h1, fun σ H Q Fz ev F R S hw k => ?_⟩
  refine h2 σ H _ Fz ev F _ S hw fun v H1 Fz1 ar r1 ef1 eh1 S1 o1 => ?_
  obtain ⟨i, rfl, rfl, r⟩ := asI_of r1 o1
  exact ⟨i, rfl, k (some i) H1 Fz1 r ef1 eh1 S1⟩
def fCut (lo hi : Option Int) : F1 := fun x Q => match x with
  | .dat (.tuple xs) => Q (.dat (.tuple (cut xs lo hi)))
  | x => asO x.sqD fun xs => Q (lstT (cut xs lo hi))
def nSl (w : WU) (wl wh : WO) : WU := fun en Q => w en fun x => wl en fun lo => wh en fun hi => fCut lo hi x Q
theorem sl_or {X : Cx} {r r' : V → Option Int → Option Int → Hp → VK → Prop} (h : SlR X r) (h' : SlR X r') : SlR X (fun x lo hi H Q => r x lo hi H Q ∨ r' x lo hi H Q) := fun pins s σ H x v vl vu lo hi sl Q I rx hs pl pu q => q.elim (h pins s σ H x v vl vu lo hi sl Q I rx hs pl pu) (h' pins s σ H x v vl vu lo hi sl Q I rx hs pl pu)
theorem cut_dvs {K : PySem.W.Frag} {Fz : Hp} {vs : List V} {xs : List PyData} (h : Dvs K Fz vs xs) (lo hi : Option Int) : Dvs K Fz (cutV vs lo hi) (cut xs lo hi) := by
  unfold cutV cut
  rw [h.length]
  exact (h.drop _).take _
theorem dn_sl {lo hi : Option Expr} {wl wh : WO} (h : DU X a w) (hl : DO X lo wl) (hh : DO X hi wh) : DN X (.Subscript a (.Slice lo hi none p2) pos) (nSl w wl wh) := by
  obtain ⟨t, h1, h2⟩ := h
  obtain ⟨tl, h3, h4⟩ := hl
  obtain ⟨th, h5, h6⟩ := hh
  refine ⟨_, pe_slice (sl_or sl_list sl_tupA) h1 h3 h5, fun σ H Q Fz ev F R S hw k => ?_⟩
  refine h2 σ H _ Fz ev F _ S hw fun v H1 Fz1 ar r1 ef1 eh1 S1 o1 => ?_
  refine h4 σ H1 _ Fz1 ev F _ S1 r1 fun lo H2 Fz2 r2 ef2 eh2 S2 => ?_
  refine h6 σ H2 _ Fz2 ev F _ S2 r2 fun hi H3 Fz3 r3 ef3 eh3 S3 => ?_
  have o3 := (o1.ext ef2 eh2).ext ef3 eh3
  have ef := (ef1.trans ef2).trans ef3
  have eh := (eh1.trans eh2).trans eh3
  have seq : ∀ xs, ar.er.sqD = some xs → (∀ ys, ar.er ≠ .dat (.tuple ys)) → R (lstT (cut xs lo hi)) → rSlL X.K v lo hi H3 Q := fun xs e hne r => by
    obtain ⟨p, vs, rfl, hs, d⟩ := sqD_of e S3.ex o3
    rcases hs with ⟨h1, _⟩ | ⟨_, _, h⟩
    · refine ⟨p, vs, rfl, h1, fun l hf => ?_⟩
      obtain ⟨g2, g3⟩ := S3.newL hf (cut_dvs d lo hi)
      exact k _ _ _ _ (by rw [er_lstT]; exact r) ef (eh.trans g2) g3
    · exact absurd h (hne _)
  unfold fCut at r3
  split at r3
  · rename_i xs e
    obtain ⟨p, vs, rfl, q, d⟩ := tpD_of (show ar.er.tpD = some xs by rw [e]; rfl) o3
    refine .inr ⟨p, vs, rfl, ex_t S3.ex q, fun hall => ?_, fun hno l hf => ?_⟩
    · have ec : cut xs lo hi = xs := by
        rw [d.length] at hall
        unfold cut
        rw [hall.1, hall.2]
        simp
      exact k _ H3 Fz3 (.dat (.tuple (cut xs lo hi))) r3 ef eh (S3.pushD (by rw [ec]; exact .tup q d))
    · obtain ⟨g1, g2, g3⟩ := S3.newT hf (cut_dvs d lo hi)
      exact k _ _ _ (.dat (.tuple (cut xs lo hi))) r3 (ef.trans g1) (eh.trans g2) g3
  · rename_i hne
    obtain ⟨xs, e, r3⟩ := asO_of r3
    exact .inl (seq xs e (fun ys h => hne ys h) r3)

/-! ### displays -/
abbrev WAU := En → (List PyData → Prop) → Prop
def EvAU (Z : Px) (t : TA) (w : WAU) : Prop := ∀ (σ : L2.St) (H : Hp) (Q : List V → Hp → Prop) (Fz : Hp) (ev : AEn) (F : Fr) (R : List PyData → Prop), SA Z Fz H σ ev F → w (AEn.er ev) R →
  (∀ vs H' Fz' xs, R xs → Ex Fz Fz' → Ex H H' → SA Z Fz' H' σ ev F → Dvs Z.K Fz' vs xs → Q vs H') → t σ H Q
structure DAU (X : Cx) (es : List Expr) (w : WAU) : Prop where
  ex : ∃ t, PA X es t ∧ EvAU X.px t w
def asP (t : T) (k : PyData → Prop) : Prop := match t with
  | .dat x => k x
  | _ => False
theorem asP_of {a : A} {k : PyData → Prop} (h : asP a.er k) : ∃ x, a = .dat x ∧ k x := by
  cases a with
  | dat x => exact ⟨x, rfl, h⟩
  | scr ns => exact h.elim
  | nd a dx kd ts => exact h.elim
def auNil : WAU := fun _ Q => Q []
def auCons (w : WU) (wr : WAU) : WAU := fun en Q => w en fun t => asP t fun x => wr en fun xs => Q (x :: xs)
theorem dau_nil : DAU X [] auNil := ⟨tNil, pa_nil, fun σ H Q Fz ev F R S hw k => k [] H Fz [] hw (Ex.refl _) (Ex.refl _) S .nil⟩
theorem dau_cons {es : List Expr} {wr : WAU} (h : DU X e w) (hr : DAU X es wr) (hs : starEach (e :: es) X.env = (false, eval e X.env) :: starEach es X.env := by rfl) : DAU X (e :: es) (auCons w wr) := by
  obtain ⟨t, h1, h2⟩ := h
  obtain ⟨tr, h3, h4⟩ := hr
  refine ⟨_, pa_cons h1 h3 hs, fun σ H Q Fz ev F R S hw k => ?_⟩
  refine h2 σ H _ Fz ev F _ S hw fun v H1 Fz1 ar r1 ef1 eh1 S1 o1 => ?_
  obtain ⟨x, rfl, r1⟩ := asP_of r1
  refine h4 σ H1 _ Fz1 ev F _ S1 r1 fun vs H2 Fz2 xs r2 ef2 eh2 S2 d2 => ?_
  exact k (v :: vs) H2 Fz2 (x :: xs) r2 (ef1.trans ef2) (eh1.trans eh2) S2 (.cons (dp_mono ef2 _ _ o1) d2)
def nTup (wa : WAU) : WU := fun en Q => wa en fun xs => xs.length ≤ sizeLine ∧ Q (.dat (.tuple xs))
def nLst (wa : WAU) : WU := fun en Q => wa en fun xs => xs.length ≤ sizeLine ∧ Q (lstT xs)
theorem dn_tup {es : List Expr} {wa : WAU} {x1} (h : DAU X es wa) : DN X (.Tuple es x1 pos) (nTup wa) := by
  obtain ⟨t, h1, h2⟩ := h
  refine ⟨_, pe_tup h1, fun σ H Q Fz ev F R S hw k => ?_⟩
  refine h2 σ H _ Fz ev F _ S hw fun vs H1 Fz1 xs r1 ef1 eh1 S1 d1 => ?_
  refine ⟨by rw [d1.length]; exact r1.1, fun p hf => ?_⟩
  obtain ⟨g1, g2, g3⟩ := S1.newT hf d1
  exact k _ _ _ (.dat (.tuple xs)) r1.2 (ef1.trans g1) (eh1.trans g2) g3
theorem dn_lst {es : List Expr} {wa : WAU} (h : DAU X es wa) : DN X (.List es pos) (nLst wa) := by
  obtain ⟨t, h1, h2⟩ := h
  refine ⟨_, pe_lst h1, fun σ H Q Fz ev F R S hw k => ?_⟩
  refine h2 σ H _ Fz ev F _ S hw fun vs H1 Fz1 xs r1 ef1 eh1 S1 d1 => ?_
  refine ⟨by rw [d1.length]; exact r1.1, fun p hf => ?_⟩
  obtain ⟨g2, g3⟩ := S1.newL hf d1
  exact k _ _ _ _ (by rw [er_lstT]; exact r1.2) ef1 (eh1.trans g2) g3
def nDic (d : Bool) : WU := fun _ Q => Q (.nd (.dic d []) [])
theorem dn_dic (d : Bool) : DN X (.Dict [] [] pos) (nDic d) := by
  refine ⟨_, pe_dicNew d, fun σ H Q Fz ev F R S hw k => fun p hf φ D => ?_⟩
  have D' : DicAt X.px Fz (upd H p (.ext φ)) p d [] [] := NodeAt.mono (k := .dic d []) (dx := 0) (fun _ _ e => by cases e) (fun _ e => e) D
  exact k _ _ Fz (.nd p 0 (.dic d []) []) hw (Ex.refl _) (Ex.new hf) (S.pushN (k := .dic d []) (vs := []) (dx := 0) hf D' rfl rfl)
/-- displays whose items may be trees -/
def aNil : WA := fun en Q => Q [] en
def aCons (w : WE) (wr : WA) : WA := fun en Q => w en fun r en1 => wr en1 fun rs en2 => Q (r :: rs) en2
theorem da_nil : DA X [] aNil := ⟨tNil, pa_nil, fun σ H Q Fz ev F R S h k => k [] H Fz [] ev h (Ex.refl _) (S.held_to ⟨S.fr, rfl⟩ (by show (F.ads ++ []).Perm F.ads; rw [List.append_nil]) rfl)⟩
theorem da_cons {es : List Expr} {w : WE} {wr : WA} (h : DE X e w) (hr : DA X es wr) (hs : starEach (e :: es) X.env = (false, eval e X.env) :: starEach es X.env := by rfl) : DA X (e :: es) (aCons w wr) := by
  obtain ⟨t, h1, h2⟩ := h
  obtain ⟨tr, h3, h4⟩ := hr
  refine ⟨tCons t tr, pa_cons h1 h3 hs, fun σ H Q Fz ev F R S hw k => ?_⟩
  refine h2 σ H _ Fz ev F _ S hw fun v H1 Fz1 a ev1 r1 e1 S1 => ?_
  refine h4 σ H1 _ Fz1 ev1 _ _ S1 r1 fun vs H2 Fz2 as ev2 r2 e2 S2 => ?_
  exact k (v :: vs) H2 Fz2 (a :: as) ev2 r2 (e1.trans e2) (S2.held_to ⟨S2.fr.1.1, ⟨v, vs, rfl, S2.fr.1.2, S2.fr.2⟩⟩ (by
    show (F.ads ++ (a.ads ++ A.adss as)).Perm (F.ads ++ a.ads ++ A.adss as)
    rw [List.append_assoc]) rfl)
def eLst (wa : WA) : WE := fun en Q => wa en fun ts en1 => ts.length ≤ sizeLine ∧ Q (.nd .lst ts) en1
theorem de_lst {es : List Expr} {wa : WA} (h : DA X es wa) : DE X (.List es pos) (eLst wa) := by
  obtain ⟨t, h1, h2⟩ := h
  refine ⟨_, pe_lst h1, fun σ H Q Fz ev F R S hw k => ?_⟩
  refine h2 σ H _ Fz ev F _ S hw fun vs H1 Fz1 as ev1 r1 ef1 S1 => ?_
  have ol : as.length = vs.length := Owns.length (show Owns X.px Fz1 H1 as vs from S1.fr.2)
  refine ⟨by rw [← ol, ← adss_len]; exact r1.1, fun p hf => ?_⟩
  have eh : Ex H1 (upd H1 p (.lst vs)) := Ex.new hf
  have S2 : SA X.px Fz1 (upd H1 p (.lst vs)) σ ev1 (F.add (.ofs X.px as vs)) := S1.grow eh
  have hF : Fz1 p = none := by
    cases e : Fz1 p with
    | none => rfl
    | some u => rw [S1.ex p u e] at hf; cases hf
  have hno : p ∉ AEn.ads ev1 ++ (F.add (.ofs X.px as vs)).ads := fun m => by
    obtain ⟨o, ho⟩ := S1.has m
    rw [hf] at ho; cases ho
  refine k _ _ Fz1 (.nd p 0 .lst as) ev1 r1.2 ef1 ?_
  have ok : (F.add (.of X.px (.nd p 0 .lst as) (.ref p))).ok Fz1 (upd H1 p (.lst vs)) := ⟨S2.fr.1, rfl, vs, upd_same, S2.fr.2⟩
  have hperm : (AEn.ads ev1 ++ (F.ads ++ (p :: A.adss as))).Perm (p :: (AEn.ads ev1 ++ (F.ads ++ A.adss as))) := by
    have : (AEn.ads ev1 ++ (F.ads ++ (p :: A.adss as))) = (AEn.ads ev1 ++ F.ads) ++ p :: A.adss as := by rw [List.append_assoc]
    rw [this]
    refine List.perm_middle.trans ?_
    rw [List.append_assoc]
  refine ⟨S2.ex, S2.sl, S2.lk, ok, ?_, ?_, S2.len, S2.pn⟩
  · exact hperm.nodup_iff.mpr (List.nodup_cons.mpr ⟨hno, S1.nd⟩)
  · intro b hb
    rcases List.mem_cons.mp (hperm.mem_iff.mp hb) with rfl | m
    · exact hF
    · exact S1.fz b m
def eTup (wa : WA) : WE := fun en Q => wa en fun ts en1 => ts.length ≤ sizeLine ∧ asO (T.pls ts) fun xs => Q (.dat (.tuple xs)) en1
theorem de_tup {es : List Expr} {wa : WA} {x1} (h : DA X es wa) : DE X (.Tuple es x1 pos) (eTup wa) := by
  obtain ⟨t, h1, h2⟩ := h
  refine ⟨_, pe_tup h1, fun σ H Q Fz ev F R S hw k => ?_⟩
  refine h2 σ H _ Fz ev F _ S hw fun vs H1 Fz1 as ev1 r1 ef1 S1 => ?_
  have ol : as.length = vs.length := Owns.length (show Owns X.px Fz1 H1 as vs from S1.fr.2)
  refine ⟨by rw [← ol, ← adss_len]; exact r1.1, fun p hf => ?_⟩
  obtain ⟨xs, e, r⟩ := asO_of r1.2
  have e2 := pls_of e
  subst e2
  obtain ⟨g1, g2, g3⟩ := S1.pop.newT hf (Owns.dats.mp S1.fr.2)
  exact k _ _ _ (.dat (.tuple xs)) ev1 r (ef1.trans g1) g3
end
end DL

set_option maxRecDepth 100000
namespace DL
open PySem PySem.Spec PyProof.Rows L2
open Evl (Ex Ex.refl Ex.trans Ex.new Ex.mut ex_l ex_t ex_rd fresh_back)

/-! ### enumerate(tuple) -/
section
open Builtin
set_option maxHeartbeats 1000000 in
theorem meets_enum1 {v : Value} {o : Obj} {H : Heap → Prop} (B : Begins v o H) :
    Meets (Builtin.«enumerate.__new__» ⟨[.type "enumerate", v], []⟩) (fun _ R s => H s.heap ∧
      R (.ok (.ret (.ref (s.heap.push o).objs.size))) { s with heap := (s.heap.push o).push { cls := .type "enumerate", data := .fields #[.none, .bool false, .ref s.heap.objs.size, rawInt 0, .none, .none] } }) :=
  .of_wp fun prog w A R s h => by
    obtain ⟨hp, g, d, tk, os⟩ := s; obtain ⟨h1, h⟩ := h
    have hsub := sub_enumerate
    have q1 : ∀ {A' : Around} {E : Value → Shared → Prop} {Q : Value → Shared → Prop}, Q (.ref hp.objs.size) ⟨hp.push o, g, d, tk, os⟩ → wpAny (model prog w) A' (pyIter v) Q E ⟨hp, g, d, tk, os⟩ :=
      fun q => B.iter prog w _ _ ⟨hp, g, d, tk, os⟩ _ h1 q
    wp_walk using q1
    refine wpAny_stack_any fun st => wpAny_pure ?_
    split
    · rename_i c _ _ _ _ _
      cases (c == Value.type "enumerate")
      · wp_walk using q1
        exact ⟨_, rfl, h⟩
      · wp_walk using q1
        exact ⟨_, rfl, h⟩
    · wp_walk using q1
      exact ⟨_, rfl, h⟩
variable {prog : Program} {w : World} {A : Around} {E : Value → Shared → Prop} {s : Shared}
theorem call_enum1 {v : Value} {o : Obj} {H : Heap → Prop} {Q : Value → Shared → Prop} (B : Begins v o H) (h1 : H s.heap)
    (h : ∀ h', IsEnum h' (s.heap.objs.size + 1) s.heap.objs.size 0 .none → h'.get? s.heap.objs.size = some o → h'.objs.size = s.heap.objs.size + 2 →
      (∀ b o, s.heap.get? b = some o → h'.get? b = some o) → Q (.ref (s.heap.objs.size + 1)) { s with heap := h' }) :
    wpAny (model prog w) A (call (.type "enumerate") [v]) Q E s := by
  refine callType_new F.called_enumerate (by decide) (F.typeCall_enumerate_1 _) (F.newCall_enumerate_1 _) (fun obj => F.args_object_init_2 obj _) F.entry_enumerate_new
    (meets_enum1 B) ⟨h1, ?_⟩
  have hz : (s.heap.push o).objs.size = s.heap.objs.size + 1 := Heap.size_push ..
  show _ ∧ _
  rw [hz]
  have he : IsEnum ((s.heap.push o).push { cls := .type "enumerate", data := .fields #[.none, .bool false, .ref s.heap.objs.size, rawInt 0, .none, .none] }) (s.heap.objs.size + 1) s.heap.objs.size 0 .none := by
    have := Heap.get?_push_size (s.heap.push o) (o := { cls := .type "enumerate", data := .fields #[.none, .bool false, .ref s.heap.objs.size, rawInt 0, .none, .none] }) rfl
    rw [hz] at this; exact this
  refine ⟨⟨_, he, rfl⟩, h _ he (Heap.get?_push_of_some _ (Heap.get?_push_size _ B.free)) (by rw [Heap.size_push, hz]) fun b o x => Heap.get?_push_of_some _ (Heap.get?_push_of_some _ x)⟩
end
def IteT (K : PySem.W.Frag) (a : Addr) : It :=
  ⟨fun i H => ∃ (xs : List V) (x : V), SqT K H a xs ∧ xs[i]? = some x, fun i H v H' => ∃ T x, v = .ref T ∧ H T = none ∧ H' = upd H T (.tup [.int (i : Nat), x]) ∧ ∀ xs, SqT K H a xs → xs[i]? = some x, fun i H => ∃ xs : List V, SqT K H a xs ∧ xs.length ≤ i⟩
theorem iter_ne {h : Heap} {it a : Addr} {i : Nat} {xs : Array Value} (h1 : h.IsTupleIter it a i) (h2 : h.IsTuple a xs) : a ≠ it := fun e => by
  subst e
  obtain ⟨o, e1, c, _⟩ := h1
  obtain ⟨o', e2, c', _⟩ := h2
  rw [e1] at e2; cases e2
  rw [c] at c'
  exact absurd c' (by decide)
theorem enum_ne {h : Heap} {e it a : Addr} {i : Int} {old : Value} {xs : Array Value} (h1 : IsEnum h e it i old) (h2 : h.IsTuple a xs) : e ≠ a := fun z => by
  subst z
  obtain ⟨o', e2, c', _⟩ := h2
  have h1' := h1
  unfold IsEnum at h1'
  rw [e2] at h1'
  have h2' := Option.some.inj h1'
  rw [h2'] at c'
  exact absurd (show Value.type "enumerate" = Value.type "tuple" from c') (by decide)
theorem draws_end {prog : Program} {w : World} {A : Around} (hh : A.handled = none) (it t : Addr) (items : Array Value) (i : Nat) (hi : items[i]? = none) :
    Draws prog w A it [it, t] i (fun _ _ => False) (fun j h => j = i ∧ h.IsTupleIter it t i ∧ h.IsTuple t items) where
  live := fun _ _ st => let ⟨o, ho, _⟩ := st.2.1; ⟨o, ho⟩
  frame := fun _ _ _ st hk => ⟨st.1, st.2.1.at fun o e => hk it (by simp) o e, st.2.2.at fun o e => hk t (by simp) o e⟩
  item := fun j s Q E hj st hQ => absurd hj (by rw [st.1]; exact Nat.lt_irrefl _)
  done := fun s Q E st hE => wpAny_nextOf_tuple_end hh st.2.1 st.2.2 hi hE
theorem turn_enumT {P : Program} {w : World} {K : PySem.W.Frag} {elts : List Expr} {kk : Nat} {tpos : Pos} (a e it : Addr) :
    Turn P w K (.Tuple elts kk tpos) (IteT K a) [e, it] e (fun i h => (∃ old, IsEnum h e it ((i : Nat) : Int) old) ∧ h.IsTupleIter it a i ∧ e ≠ it) where
  mem := by simp
  obj := fun i h st b hb => by
    obtain ⟨⟨old, he⟩, ⟨o, ho, hc, hd⟩, _⟩ := st
    have e' : b = e ∨ b = it := by simpa using hb
    rcases e' with z | z
    · rw [z]; exact ⟨_, he, fun v q => nomatch q⟩
    · rw [z]; exact ⟨o, ho, fun v q => by rw [hd] at q; cases q⟩
  keep := fun i h h' st k => let ⟨⟨old, he⟩, hi, hne⟩ := st; ⟨⟨old, k e (by simp) _ he⟩, hi.at fun o q => k it (by simp) o q, hne⟩
  item := by
    intro X hP hw hK hc i pins s σ H E I hf st hg
    subst hP hw hK
    obtain ⟨⟨old, he⟩, hit, hne⟩ := st
    obtain ⟨xs, x, hq, hx⟩ := hg
    obtain ⟨its, rv, p, hz⟩ := I.tuple hq
    have pt : s.heap.IsTuple a its.toArray := p
    obtain ⟨u, hu, ru⟩ := rv.get hx
    have hel : e < s.heap.objs.size := Heap.lt_size he
    have hil : it < s.heap.objs.size := by obtain ⟨_, q, _⟩ := hit; exact Heap.lt_size q
    have D := Draws.tuple (prog := X.prog) (w := X.w) (A := X.A.in1) (I.ok.hd hc) it a (iter_ne hit pt) its.toArray
    have hlt : i < its.toArray.size := by
      rw [List.size_toArray]
      exact (List.getElem?_eq_some_iff.mp hu).1
    refine wpAny_pyNext_enum_itemC D he ⟨hit, pt⟩ hlt hne (fun m => ?_) fun y h' tk hy ho hit' hT hsz hk => ?_
    · rcases List.mem_cons.mp m with z | z
      · exact hne z
      · exact enum_ne he pt (List.mem_singleton.mp z)
    have ey : y = u := by
      have q : its.toArray[i]? = some y := hy
      rw [List.getElem?_toArray, hu] at q
      exact (Option.some.inj q).symm
    subst ey
    refine ⟨_, rfl, wpAny_letOwnedTupleGo_enum (s := { s with heap := h', toks := tk + 1 }) ho fun h'' he' sb => ?_⟩
    have hT2 : h''.get? s.heap.objs.size = some { cls := .type "tuple", data := .seq #[.int i tk, y] } := (sb.2 _ (Nat.ne_of_gt hel)).trans hT
    have new : ObjOk X.prog X.w (upd H s.heap.objs.size (.tup [.int (i : Nat), x])) h'' s.heap.objs.size (.tup [.int (i : Nat), x]) :=
      ⟨by show 2 ≤ sizeLine; decide, [.int i tk, y], .cons ⟨_, rfl⟩ (.cons ru .nil), ⟨_, hT2, rfl, _, rfl⟩⟩
    have I1 : Inv X pins σ (upd H s.heap.objs.size (.tup [.int (i : Nat), x])) { s with heap := h'', toks := tk + 1 } :=
      I.turnedNew (ch := [e, it]) (fun b ob hb q => (sb.2 b (fun z => hb (by simp [z]))).trans (hk b ob (fun z => hb (by simp [z])) (fun z => hb (by simp [z])) q)) hf (Nat.le_refl _) new
    refine ⟨.ref s.heap.objs.size, _, I1, rfl, ⟨_, x, rfl, I.hok.fresh (Nat.le_refl _), rfl, fun ys hy => by rw [I.tuple_inj hy hq]; exact hx⟩, ⟨⟨y, ?_⟩, hit'.1.at fun o q => (sb.2 it (Ne.symm hne)).trans q, hne⟩, fun b hb => ?_⟩
    · have e1 : ((i + 1 : Nat) : Int) = (i : Int) + 1 := by omega
      rw [e1]; exact he'
    · have hb' : b < s.heap.objs.size := by
        have e' : b = e ∨ b = it := by simpa using hb
        rcases e' with z | z
        · rw [z]; exact hel
        · rw [z]; exact hil
      rw [upd_ne (Nat.ne_of_lt hb')]
      exact (hf b hb).1
  done := by
    intro X hP hw hK hc i pins s σ H E I hf st hg
    subst hP hw hK
    obtain ⟨⟨old, he⟩, hit, hne⟩ := st
    obtain ⟨xs, hq, hx⟩ := hg
    obtain ⟨its, rv, p, hz⟩ := I.tuple hq
    have pt : s.heap.IsTuple a its.toArray := p
    obtain ⟨f0, f1, f2, f3, f4, f5⟩ := hf it (by simp)
    have hl := rv.length
    have D := draws_end (prog := X.prog) (w := X.w) (A := X.A.in1) (I.ok.hd hc) it a its.toArray i (by simp; omega)
    exact wpAny_pyNext_enum_endD D he ⟨rfl, hit, pt⟩ fun h' eb => ⟨rfl, I.turned (t' := s.toks) (fun b o hb q => eb b o hb q) f0 f1 f3 f4 f5⟩
  self := fun A i s Q E st h => let ⟨⟨_, he⟩, _⟩ := st; wpAny_pyIter_enum he h

def iEnumT (K : PySem.W.Frag) (ta : TA) : TI := fun σ H R => ta σ H fun vs H1 => ∃ a xs, vs = [.ref a] ∧ ((SqL K H1 a xs ∧ R (Ite K a) H1) ∨ (SqT K H1 a xs ∧ R (IteT K a) H1))
theorem pi_enumT {X : Cx} {e : Expr} {ta : TA} {p pos tpos : Pos} {elts : List Expr} {kk : Nat} (hg : Gl X "enumerate") (hm : X.mg "enumerate" = none) (ha : PA X [e] ta) (hs : starEach [e] X.env = [(false, eval e X.env)] := by rfl) :
    PI X (.Tuple elts kk tpos) (.Call (.Name "enumerate" p) [e] [] pos) (iEnumT X.K ta) := by
  refine ⟨fun pins s σ H R I h => ?_⟩
  refine Call_ (ld_blt I hg hm boot_enumerate (PyProof.Rows.callWith_type1 (thn (ha.run pos pins s σ H _ I h) fun us s1 ⟨vs, H1, I1, r1, q1⟩ => ?_) hs rfl))
  obtain ⟨a, xs, ex, q⟩ := q1
  subst ex
  cases r1 with
  | cons r rr =>
    cases rr
    cases r
    have fr : ∀ b, b ∈ [s1.heap.objs.size + 1, s1.heap.objs.size] → FpOk X pins H1 b := fun b hb => by
      have e' : b = s1.heap.objs.size + 1 ∨ b = s1.heap.objs.size := by simpa using hb
      have hle : s1.heap.objs.size ≤ b := by
        rcases e' with z | z
        · rw [z]; exact Nat.le_add_right _ _
        · rw [z]; exact Nat.le_refl _
      exact I1.fpOk hle (I1.hok.fresh hle)
    rcases q with ⟨hq, q⟩ | ⟨hq, q⟩
    · obtain ⟨its, rv, p', hz⟩ := I1.list hq
      refine call_enumerate_list p'.isList fun h' he hit hsz hk => wpAny_pyIter_enum he ?_
      have I2 : Inv X pins σ H1 { s1 with heap := h' } := I1.kept (t' := s1.toks) hk
      exact ⟨s1.heap.objs.size + 1, [s1.heap.objs.size + 1, s1.heap.objs.size], _, _, H1, rfl, I2, turn_enum a (s1.heap.objs.size + 1) s1.heap.objs.size, ⟨⟨.none, he⟩, hit, Nat.succ_ne_self _⟩, fr, q⟩
    · obtain ⟨its, rv, p', hz⟩ := I1.tuple hq
      refine call_enum1 (begins_tuple a its.toArray) p' fun h' he hit hsz hk => wpAny_pyIter_enum he ?_
      have I2 : Inv X pins σ H1 { s1 with heap := h' } := I1.kept (t' := s1.toks) hk
      exact ⟨s1.heap.objs.size + 1, [s1.heap.objs.size + 1, s1.heap.objs.size], _, _, H1, rfl, I2, turn_enumT a (s1.heap.objs.size + 1) s1.heap.objs.size, ⟨⟨.none, he⟩, ⟨_, hit, rfl, rfl⟩, Nat.succ_ne_self _⟩, fr, q⟩

/-! ### any sequence or dict -/
def iAny (Z : Px) (tl : TE) : TI := fun σ H R => tl σ H fun x H1 => ∃ a, x = .ref a ∧ (((∃ xs, SqL Z.K H1 a xs) ∧ R (Itl Z.K a) H1) ∨ ((∃ xs, SqT Z.K H1 a xs) ∧ R (Itt Z.K a) H1) ∨
  ((a == sysModules) = false ∧ ((∃ es ep, H1 a = some (.ext (dPhi Z a es ep)) ∧ R (ItD Z a es ep) H1) ∨ ∃ es ep, H1 a = some (.ext (fPhi Z a es ep)) ∧ R (ItF Z a es ep) H1)))
theorem pi_any {X : Cx} {tg l : Expr} {tl : TE} (hl : PE X l tl) : PI X tg l (iAny X.px tl) := by
  refine ⟨fun pins s σ H R I h => ?_⟩
  refine thn (hl.run pins s σ H _ I h) fun v s1 ⟨x, H1, I1, r1, q1⟩ => ?_
  obtain ⟨a, e, q⟩ := q1
  subst e
  cases r1
  have fr : ∀ b, b ∈ [s1.heap.objs.size] → FpOk X pins H1 b := fun b hb => by
    have e : b = s1.heap.objs.size := by simpa using hb
    subst e
    exact I1.fpOk (Nat.le_refl _) (I1.hok.fresh (Nat.le_refl _))
  rcases q with ⟨⟨xs, hq⟩, q⟩ | ⟨⟨xs, hq⟩, q⟩ | ⟨hs, ⟨es, ep, hd, q⟩ | ⟨es, ep, hd, q⟩⟩
  · obtain ⟨its, rv, p, hz⟩ := I1.list hq
    exact wpAny_pyIter_list p.isList ⟨s1.heap.objs.size, [s1.heap.objs.size], _, _, H1, rfl, I1.kept (t' := s1.toks) fun b o e => Heap.get?_push_of_some _ e, turn_list a _, ⟨_, Heap.get?_push_size _ rfl, rfl, rfl⟩, fr, q⟩
  · obtain ⟨its, rv, p, hz⟩ := I1.tuple hq
    exact wpAny_pyIter_tuple (show s1.heap.IsTuple a its.toArray from p) ⟨s1.heap.objs.size, [s1.heap.objs.size], _, _, H1, rfl, I1.kept (t' := s1.toks) fun b o e => Heap.get?_push_of_some _ e, turn_tuple a _, ⟨_, Heap.get?_push_size _ rfl, rfl, rfl⟩, fr, q⟩
  · obtain ⟨⟨xs, pr, o, ee, h1, h2, h3, h4⟩, _, _⟩ := I1.hok a _ hd
    have hl : es.length = xs.length := Paired.length pr
    have hsz : ee.size = es.length := by rw [hl, ← Array.length_toList, h4, List.length_map]
    refine iter_keys hs h1 h2 h3 (pi_one (tk := s1.toks) I1 _ (turn_D _) ⟨_, Heap.get?_push_size _ rfl, rfl, ?_⟩ q)
    rw [hsz]; rfl
  · obtain ⟨⟨ws, rel, dd⟩, _, _⟩ := I1.hok a _ hd
    have hl : es.length = ws.length := Paired.length rel
    obtain ⟨ee, ⟨o, h1, h2, h3⟩, hsz, hk⟩ := dd.raw
    refine iter_keys hs h1 h2 h3 (pi_one (tk := s1.toks) I1 _ (turn_F _) ⟨_, Heap.get?_push_size _ rfl, rfl, ?_⟩ q)
    rw [hsz, ← hl]; rfl
end DL

set_option maxRecDepth 100000
namespace DL
open PySem PySem.Spec PyProof.Rows L2
open Evl (Ex Ex.refl Ex.trans Ex.new Ex.mut ex_l ex_t ex_rd fresh_back)

/-! ### slots wiped -/
def wipeE {α : Type} : List Nat → List (Sl α) → List (Sl α)
  | [], en => en
  | v :: vs, en => killL v 0 ((wipeE vs en).set v .un)
theorem wipeE_er (vs : List Nat) (ev : AEn) : AEn.er (wipeE vs ev) = wipeE vs (AEn.er ev) := by
  induction vs with
  | nil => rfl
  | cons v vs ih => show AEn.er (killL v 0 ((wipeE vs ev).set v .un)) = killL v 0 ((wipeE vs (AEn.er ev)).set v .un); rw [killL_er, er_set, ih]; rfl
theorem wipeE_length {α : Type} (vs : List Nat) (en : List (Sl α)) : (wipeE vs en).length = en.length := by
  induction vs with
  | nil => rfl
  | cons v vs ih => show (killL v 0 ((wipeE vs en).set v .un)).length = _; rw [killL_length, List.length_set, ih]
theorem wipeE_un {α : Type} : ∀ {vs : List Nat} {en : List (Sl α)} {i : Nat} {u : Sl α}, i ∈ vs → (wipeE vs en)[i]? = some u → u = .un
  | v :: vs, en, i, u, hm, h => by
    obtain ⟨u0, h1, h2⟩ := killL_get (show (killL v 0 ((wipeE vs en).set v .un))[i]? = some u from h)
    by_cases e : v = i
    · subst e
      have hl := (List.getElem?_eq_some_iff.mp h1).1
      rw [List.length_set] at hl
      rw [List.getElem?_set_self hl] at h1
      cases h1
      exact h2.symm
    · rw [List.getElem?_set_ne e] at h1
      rcases List.mem_cons.mp hm with z | z
      · exact absurd z.symm e
      · have := wipeE_un z h1
        subst this
        exact h2.symm
theorem wipe_length (σ : L2.St) (vs : List Nat) : (wipe σ vs).length = σ.length := by
  induction vs with
  | nil => rfl
  | cons v vs ih => show ((wipe σ vs).set v none).length = _; rw [List.length_set, ih]
theorem wipe_get (σ : L2.St) : ∀ (vs : List Nat) (i : Nat), i ∉ vs → (wipe σ vs)[i]? = σ[i]?
  | [], _, _ => rfl
  | v :: vs, i, h => by
    show ((wipe σ vs).set v none)[i]? = _
    rw [List.getElem?_set_ne (fun e => h (by rw [e]; exact List.mem_cons_self ..))]
    exact wipe_get σ vs i fun m => h (List.mem_cons_of_mem _ m)
theorem wipe_in (σ : L2.St) : ∀ (vs : List Nat) (i : Nat), i ∈ vs → i < σ.length → (wipe σ vs)[i]? = some none
  | v :: vs, i, h, hl => by
    show ((wipe σ vs).set v none)[i]? = _
    by_cases e : v = i
    · subst e
      rw [List.getElem?_set_self (by rw [wipe_length]; exact hl)]
    · rw [List.getElem?_set_ne e]
      rcases List.mem_cons.mp h with z | z
      · exact absurd z.symm e
      · exact wipe_in σ vs i z hl
theorem wipe_some {σ : L2.St} {vs : List Nat} {i : Nat} {v : V} (h : (wipe σ vs)[i]? = some (some v)) : σ[i]? = some (some v) := by
  by_cases m : i ∈ vs
  · have hl : i < σ.length := by rw [← wipe_length σ vs]; exact (List.getElem?_eq_some_iff.mp h).1
    rw [wipe_in σ vs i m hl] at h
    cases h
  · rw [wipe_get σ vs i m] at h; exact h
theorem wipe_eq {σ σ' : L2.St} {vs : List Nat} (h : ∀ i, i ∉ vs → σ'[i]? = σ[i]?) (hl : σ'.length = σ.length) : wipe σ' vs = wipe σ vs := by
  refine List.ext_getElem? fun i => ?_
  by_cases m : i ∈ vs
  · by_cases hi : i < σ.length
    · rw [wipe_in σ vs i m hi, wipe_in σ' vs i m (by rw [hl]; exact hi)]
    · rw [List.getElem?_eq_none (by rw [wipe_length]; omega), List.getElem?_eq_none (by rw [wipe_length]; omega)]
  · rw [wipe_get _ _ _ m, wipe_get _ _ _ m, h i m]
section
variable {Z : Px} {Fz Fz' H H' : Hp} {σ σ' : L2.St} {ev : AEn} {F G : Fr}
theorem SA.wipeV (S : SA Z Fz H σ ev F) (v : Nat) : SA Z Fz H (σ.set v none) (killL v 0 (ev.set v .un)) F := by
  by_cases hv : v < ev.length
  · exact S.wipe1 hv
  · have e1 : ev.set v .un = ev := List.set_eq_of_length_le (by omega)
    have e2 : σ.set v none = σ := List.set_eq_of_length_le (by rw [← S.len]; omega)
    have e3 : killL v 0 ev = ev := by
      refine List.ext_getElem? fun i => ?_
      unfold killL
      rw [List.getElem?_map]
      cases hi : ev[i]? with
      | none => rfl
      | some u =>
        show some (u.kill v 0) = some u
        cases u with
        | lnk k q =>
          obtain ⟨u', t, a, dx, kd, ts, g1, _⟩ := S.lk i k q hi
          have : k ≠ v := fun e => by
            rw [e, List.getElem?_eq_none (by omega)] at g1; cases g1
          have h1 : Nat.beq k v = false := by
            rw [← Bool.not_eq_true]
            exact fun z => this (Nat.eq_of_beq_eq_true z)
          show some (bif Nat.beq k v && Nat.ble 0 q.length then Sl.un else Sl.lnk k q : Sl A) = _
          rw [h1]; rfl
        | _ => rfl
    rw [e1, e2, e3]
    exact S
theorem SA.wipes (S : SA Z Fz H σ ev F) : ∀ vs : List Nat, SA Z Fz H (wipe σ vs) (wipeE vs ev) F
  | [] => S
  | v :: vs => (S.wipes vs).wipeV v
theorem SA.unwipe {vs : List Nat} (S : SA Z Fz H (wipe σ vs) ev F) : SA Z Fz H σ ev F where
  ex := S.ex
  sl := fun i u t e1 e2 => let ⟨v, h1, h2⟩ := S.sl i u t e1 e2; ⟨v, wipe_some h1, h2⟩
  lk := fun i j p e => let ⟨u, t, a, dx, k, ts, g1, g2, g3, g4⟩ := S.lk i j p e; ⟨u, t, a, dx, k, ts, g1, g2, g3, wipe_some g4⟩
  fr := S.fr
  nd := S.nd
  fz := S.fz
  len := by rw [S.len, wipe_length]
  pn := fun i u e1 e2 => let ⟨v, h1, h2⟩ := S.pn i u e1 e2; ⟨v, h1, wipe_some h2⟩
theorem SA.rewipe {vs : List Nat} (S : SA Z Fz H σ (wipeE vs ev) F) : SA Z Fz H (wipe σ vs) (wipeE vs ev) F where
  ex := S.ex
  sl := fun i u t e1 e2 => by
    obtain ⟨v, h1, h2⟩ := S.sl i u t e1 e2
    refine ⟨v, ?_, h2⟩
    rw [wipe_get _ _ _ fun m => by rw [wipeE_un m e1] at e2; cases e2]
    exact h1
  lk := fun i j p e => by
    obtain ⟨u, t, a, dx, k, ts, g1, g2, g3, g4⟩ := S.lk i j p e
    refine ⟨u, t, a, dx, k, ts, g1, g2, g3, ?_⟩
    rw [wipe_get _ _ _ fun m => by cases wipeE_un m e]
    exact g4
  fr := S.fr
  nd := S.nd
  fz := S.fz
  len := by rw [S.len, wipe_length]
  pn := fun i u e1 e2 => by
    obtain ⟨v, h1, h2⟩ := S.pn i u e1 e2
    refine ⟨v, h1, ?_⟩
    rw [wipe_get _ _ _ fun m => by rw [wipeE_un m e1] at e2; cases e2]
    exact h2
/-- a list that is held gets one more item -/
theorem SA.appF {D dx : Addr} {ts : List A} {r : A} {v : V} (S : SA Z Fz H σ ev ((F.add (.of Z (.nd D dx .lst ts) (.ref D))).add (.of Z r v))) :
    ∃ vs, H D = some (.lst vs) ∧ ts.length = vs.length ∧ SA Z Fz (upd H D (.lst (vs ++ [v]))) σ ev (F.add (.of Z (.nd D dx .lst (ts ++ [r])) (.ref D))) := by
  obtain ⟨⟨hF, ⟨_, vs, n, os⟩⟩, orr⟩ := S.fr
  have hn : H D = some (.lst vs) := n
  have nd0 : (AEn.ads ev ++ ((F.ads ++ (D :: A.adss ts)) ++ r.ads)).Nodup := S.nd
  have hp : (AEn.ads ev ++ ((F.ads ++ (D :: A.adss ts)) ++ r.ads)).Perm (D :: (AEn.ads ev ++ (F.ads ++ (A.adss ts ++ r.ads)))) := by
    have e : AEn.ads ev ++ ((F.ads ++ (D :: A.adss ts)) ++ r.ads) = (AEn.ads ev ++ F.ads) ++ D :: (A.adss ts ++ r.ads) := by simp [List.append_assoc]
    rw [e]
    refine List.perm_middle.trans ?_
    rw [List.append_assoc]
  have nd1 := hp.nodup_iff.mp nd0
  have hD := (List.nodup_cons.mp nd1).1
  have ne : ∀ a, a ∈ AEn.ads ev ++ (F.ads ++ (A.adss ts ++ r.ads)) → a ≠ D := fun a m e => hD (by rw [← e]; exact m)
  have hFD : Fz D = none := S.fz D (hp.mem_iff.mpr (List.mem_cons_self ..))
  have keep : ∀ a, a ∈ AEn.ads ev ++ (F.ads ++ (A.adss ts ++ r.ads)) → ∀ o, H a = some o → (upd H D (.lst (vs ++ [v]))) a = some o := fun a m o e => by rw [upd_ne (ne a m)]; exact e
  refine ⟨vs, hn, os.length, fun a o e => ?_, fun i u t e1 e2 => ?_, S.lk, ⟨?_, rfl, vs ++ [v], upd_same, ?_⟩, ?_, ?_, S.len, S.pn⟩
  · rw [upd_ne (fun z => by rw [z, hFD] at e; cases e)]
    exact S.ex a o e
  · obtain ⟨w, h1, h2⟩ := S.sl i u t e1 e2
    exact ⟨w, h1, Own.mono (Ex.refl _) t w (fun a m => keep a (List.mem_append_left _ (ads_mem e1 e2 m))) h2⟩
  · exact F.mono (Ex.refl _) (fun a m => keep a (List.mem_append_right _ (List.mem_append_left _ m))) hF
  · refine Owns.join (Owns.mono (Ex.refl _) ts vs (fun a m => keep a (List.mem_append_right _ (List.mem_append_right _ (List.mem_append_left _ m)))) os) ⟨v, [], rfl, ?_, rfl⟩
    exact Own.mono (Ex.refl _) r v (fun a m => keep a (List.mem_append_right _ (List.mem_append_right _ (List.mem_append_right _ m)))) orr
  · have e : AEn.ads ev ++ (F.ads ++ (D :: A.adss (ts ++ [r]))) = AEn.ads ev ++ ((F.ads ++ (D :: A.adss ts)) ++ r.ads) := by
      rw [A.adss_append]
      simp [List.append_assoc, A.adss]
    show (AEn.ads ev ++ (F.ads ++ (D :: A.adss (ts ++ [r])))).Nodup
    rw [e]; exact nd0
  · have e : AEn.ads ev ++ (F.ads ++ (D :: A.adss (ts ++ [r]))) = AEn.ads ev ++ ((F.ads ++ (D :: A.adss ts)) ++ r.ads) := by
      rw [A.adss_append]
      simp [List.append_assoc, A.adss]
    intro a m
    have m' : a ∈ AEn.ads ev ++ (F.ads ++ (D :: A.adss (ts ++ [r]))) := m
    rw [e] at m'
    exact S.fz a m'
/-- a new list of our own, empty -/
theorem SA.new0 (S : SA Z Fz H σ ev F) {D : Addr} (hf : H D = none) : Ex H (upd H D (.lst [])) ∧ SA Z Fz (upd H D (.lst [])) σ ev (F.add (.of Z (.nd D 0 .lst []) (.ref D))) := S.newL hf (vs := []) (xs := []) .nil
end

/-! ### with or without changes -/
/-- a reading that may change the slots; g: all that it does is to make new objects -/
def EvEg (g : Bool) (Z : Px) (t : TE) (w : WE) : Prop := ∀ (σ : L2.St) (H : Hp) (Q : VK) (Fz : Hp) (ev : AEn) (F : Fr) (R : T → En → Prop), SA Z Fz H σ ev F → w (AEn.er ev) R →
  (∀ v H' Fz' ar ev', R ar.er (AEn.er ev') → Ex Fz Fz' → (g = true → Ex H H') → SA Z Fz' H' σ ev' (F.add (.of Z ar v)) → Q v H') → t σ H Q
def EvTg (g : Bool) (Z : Px) (t : TT) (w : WT) : Prop := ∀ (σ : L2.St) (H : Hp) (Q : Bool → Hp → Prop) (Fz : Hp) (ev : AEn) (F : Fr) (R : Bool → En → Prop), SA Z Fz H σ ev F → w (AEn.er ev) R →
  (∀ b H' Fz' ev', R b (AEn.er ev') → Ex Fz Fz' → (g = true → Ex H H') → SA Z Fz' H' σ ev' F → Q b H') → t σ H Q
structure DEg (g : Bool) (X : Cx) (e : Expr) (w : WE) : Prop where
  ex : ∃ t, PE X e t ∧ EvEg g X.px t w
structure DTg (g : Bool) (X : Cx) (ifs : List Expr) (w : WT) : Prop where
  ex : ∃ t, PTs X ifs t ∧ EvTg g X.px t w
section
variable {X : Cx} {e a b : Expr} {pos : Pos}
theorem deg_f {w : WE} (h : DE X e w) : DEg false X e w := let ⟨t, h1, h2⟩ := h.ex; ⟨t, h1, fun σ H Q Fz ev F R S hw k => h2 σ H Q Fz ev F R S hw fun v H' Fz' ar ev' r ef S' => k v H' Fz' ar ev' r ef (fun z => nomatch z) S'⟩
theorem deg_u {w : WU} (h : DU X e w) : DEg true X e (eU w) := by
  obtain ⟨t, h1, h2⟩ := h
  refine ⟨t, h1, fun σ H Q Fz ev F R S hw k => ?_⟩
  refine h2 σ H Q Fz ev F _ S hw fun v H' Fz' ar r ef eh S' o => ?_
  cases ar with
  | dat x => exact k v H' Fz' (.dat x) ev r ef (fun _ => eh) (S'.pushD o)
  | scr ns => exact r.elim
  | nd a dx kd ts => exact r.elim
theorem deg_n {w : WU} (h : DN X e w) : DEg true X e (eN w) := let ⟨t, h1, h2⟩ := h.ex; ⟨t, h1, fun σ H Q Fz ev F R S hw k => h2 σ H Q Fz ev F _ S hw fun v H' Fz' ar r ef eh S' => k v H' Fz' ar ev r ef (fun _ => eh) S'⟩
theorem dtg_nil {g : Bool} : DTg g X [] (fun en Q => Q true en) := ⟨_, pts_nil, fun σ H Q Fz ev F R S hw k => k true H Fz ev hw (Ex.refl _) (fun _ => Ex.refl _) S⟩
theorem dtg_f {w : WT} (h : DT X e w) : DTg false X [e] w := let ⟨t, h1, h2⟩ := h.ex; ⟨t, pts_one h1, fun σ H Q Fz ev F R S hw k => h2 σ H Q Fz ev F R S hw fun b H' Fz' ev' r ef S' => k b H' Fz' ev' r ef (fun z => nomatch z) S'⟩
/-- a comparison of things looked at -/
theorem dtg_c {g : F2} {w w' : WU} (r : CR X a b e g) (h : DU X a w) (h' : DU X b w') : DTg true X [e] (tV (ue2 g w w')) := by
  obtain ⟨r, op, _, pt⟩ := r
  obtain ⟨t, h1, h2⟩ := h
  obtain ⟨t', h3, h4⟩ := h'
  refine ⟨_, pts_one (pt t t' h1 h3), fun σ H Q Fz ev F R S hw k => ?_⟩
  refine h2 σ H _ Fz ev F _ S hw fun v H1 Fz1 ar r1 ef1 eh1 S1 o1 => ?_
  refine h4 σ H1 _ Fz1 ev F _ S1 r1 fun u H2 Fz2 br r2 ef2 eh2 S2 o2 => ?_
  refine op σ H2 _ Fz2 ev F ar br v u _ S2 (o1.ext ef2 eh2) o2 r2 fun v' H3 Fz3 a' r3 ef3 eh3 S3 => ?_
  cases a' with
  | nd a dx kd ts => exact r3.elim
  | scr ns => exact r3.elim
  | dat x =>
    cases x with
    | bool c =>
      cases (show Dv X.K Fz3 v' (.bool c) from S3.fr.2)
      exact ⟨c, rfl, k c H3 Fz3 ev r3 ((ef1.trans ef2).trans ef3) (fun _ => (eh1.trans eh2).trans eh3) S3.pop⟩
    | _ => exact r3.elim
end

/-! ### walks -/
/-- the walk J gives the data its, one by one, wherever P stands -/
def IterP (Z : Px) (J : It) (its : List PyData) (P : Hp → Hp → Prop) : Prop := ∀ (Fz H : Hp) (σ : L2.St) (ev : AEn) (F : Fr), P Fz H → SA Z Fz H σ ev F → ∀ i : Nat,
  (∀ d, its[i]? = some d → J.go i H ∧ ∀ x H', J.yld i H x H' → ∃ Fz', Ex Fz Fz' ∧ Ex H H' ∧ SA Z Fz' H' σ ev F ∧ Dv Z.K Fz' x d) ∧ (its.length ≤ i → J.stop i H)
theorem IterP.mono {Z : Px} {J : It} {its : List PyData} {P P' : Hp → Hp → Prop} (h : IterP Z J its P) (m : ∀ Fz H, P' Fz H → P Fz H) : IterP Z J its P' := fun Fz H σ ev F p S => h Fz H σ ev F (m Fz H p) S
section
variable {Z : Px}
theorem iter_l {a : Addr} {ds : List PyData} : IterP Z (Itl Z.K a) ds (fun Fz H => ∃ xs, SqL Z.K H a xs ∧ Dvs Z.K Fz xs ds) := fun Fz H σ ev F ⟨xs, hq, d⟩ S i => by
  refine ⟨fun c hc => ?_, fun hi => ⟨xs, hq, by rw [d.length]; exact hi⟩⟩
  obtain ⟨v, g1, g2⟩ := d.at hc
  refine ⟨⟨xs, v, hq, g1⟩, fun x H' ⟨e, h⟩ => ?_⟩
  subst e
  have : x = v := by
    have := h xs hq
    rw [g1] at this
    exact (Option.some.inj this).symm
  subst this
  exact ⟨Fz, Ex.refl _, Ex.refl _, S, g2⟩
theorem iter_t {a : Addr} {ds : List PyData} : IterP Z (Itt Z.K a) ds (fun Fz H => ∃ xs, SqT Z.K H a xs ∧ Dvs Z.K Fz xs ds) := fun Fz H σ ev F ⟨xs, hq, d⟩ S i => by
  refine ⟨fun c hc => ?_, fun hi => ⟨xs, hq, by rw [d.length]; exact hi⟩⟩
  obtain ⟨v, g1, g2⟩ := d.at hc
  refine ⟨⟨xs, v, hq, g1⟩, fun x H' ⟨e, h⟩ => ?_⟩
  subst e
  have : x = v := by
    have := h xs hq
    rw [g1] at this
    exact (Option.some.inj this).symm
  subst this
  exact ⟨Fz, Ex.refl _, Ex.refl _, S, g2⟩
def rngD (lo : Int) (n : Nat) : List PyData := (List.range n).map fun i => .int (lo + (i : Nat))
theorem iter_r {lo : Int} {n : Nat} {P : Hp → Hp → Prop} : IterP Z (Itr lo n) (rngD lo n) P := fun Fz H σ ev F _ S i => by
  unfold rngD
  refine ⟨fun c hc => ?_, fun hi => show n ≤ i by simpa using hi⟩
  rw [List.getElem?_map] at hc
  by_cases hi : i < n
  · rw [List.getElem?_range hi] at hc
    cases hc
    refine ⟨hi, fun x H' ⟨e, h⟩ => ?_⟩
    subst e h
    exact ⟨Fz, Ex.refl _, Ex.refl _, S, .int _⟩
  · rw [List.getElem?_eq_none (by simpa using hi)] at hc
    cases hc
theorem iter_d {a : Addr} {es : List Ent} {ep : Nat} : IterP Z (ItD Z a es ep) (es.map fun e => e.1.data) (fun Fz H => H a = some (.ext (dPhi Z a es ep)) ∧ ∀ e ∈ es, Dv Z.K Fz (.ref e.2.1) e.1.data) := fun Fz H σ ev F ⟨h, d⟩ S i => by
  refine ⟨fun c hc => ?_, fun hi => ⟨h, by simpa using hi⟩⟩
  rw [List.getElem?_map] at hc
  cases he : es[i]? with
  | none => rw [he] at hc; cases hc
  | some e =>
    rw [he] at hc
    cases hc
    refine ⟨⟨h, (List.getElem?_eq_some_iff.mp he).1⟩, fun x H' ⟨e1, e', h1, h2⟩ => ?_⟩
    subst e1 h2
    rw [he] at h1
    cases h1
    exact ⟨Fz, Ex.refl _, Ex.refl _, S, d e (List.mem_of_getElem? he)⟩
theorem iter_f {a : Addr} {es : List (Key × V)} {ep : Nat} : IterP Z (ItF Z a es ep) (es.map fun e => (nkOf e.1).data) (fun Fz H => H a = some (.ext (fPhi Z a es ep))) := fun Fz H σ ev F h S i => by
  refine ⟨fun c hc => ?_, fun hi => ⟨h, by simpa using hi⟩⟩
  rw [List.getElem?_map] at hc
  cases he : es[i]? with
  | none => rw [he] at hc; cases hc
  | some e =>
    rw [he] at hc
    cases hc
    refine ⟨⟨h, (List.getElem?_eq_some_iff.mp he).1⟩, fun x H' ⟨e1, e', h1, h2⟩ => ?_⟩
    subst e1 h2
    rw [he] at h1
    cases h1
    refine ⟨Fz, Ex.refl _, Ex.refl _, S, ?_⟩
    obtain ⟨k, v⟩ := e
    cases k with
    | inl k => exact .int _
    | inr k => exact .str _
def enumD (ds : List PyData) : List PyData := ds.zipIdx.map fun p => .tuple [.int (p.2 : Nat), p.1]
theorem enumD_get {ds : List PyData} {i : Nat} {c : PyData} (h : (enumD ds)[i]? = some c) : ∃ d, ds[i]? = some d ∧ c = .tuple [.int (i : Nat), d] := by
  unfold enumD at h
  rw [List.getElem?_map, List.getElem?_zipIdx] at h
  cases hd : ds[i]? with
  | none => rw [hd] at h; cases h
  | some d => rw [hd] at h; exact ⟨d, rfl, by rw [← Option.some.inj h]; simp⟩
theorem enumD_length (ds : List PyData) : (enumD ds).length = ds.length := by unfold enumD; simp
theorem iter_e {a : Addr} {ds : List PyData} : IterP Z (Ite Z.K a) (enumD ds) (fun Fz H => ∃ xs, SqL Z.K H a xs ∧ Dvs Z.K Fz xs ds) := fun Fz H σ ev F ⟨xs, hq, d⟩ S i => by
  refine ⟨fun c hc => ?_, fun hi => ⟨xs, hq, by rw [d.length, ← enumD_length]; exact hi⟩⟩
  obtain ⟨c', hc', rfl⟩ := enumD_get hc
  obtain ⟨v, g1, g2⟩ := d.at hc'
  refine ⟨⟨xs, v, hq, g1⟩, fun x H' ⟨T, y, e, hf, e2, h⟩ => ?_⟩
  subst e e2
  have : y = v := by
    have := h xs hq
    rw [g1] at this
    exact (Option.some.inj this).symm
  subst this
  obtain ⟨f1, f2, S2⟩ := S.newT hf (vs := [.int (i : Nat), y]) (xs := [.int (i : Nat), c']) (.cons (.int _) (.cons g2 .nil))
  exact ⟨_, f1, f2, S2.pop, S2.fr.2⟩
theorem iter_eT {a : Addr} {ds : List PyData} : IterP Z (IteT Z.K a) (enumD ds) (fun Fz H => ∃ xs, SqT Z.K H a xs ∧ Dvs Z.K Fz xs ds) := fun Fz H σ ev F ⟨xs, hq, d⟩ S i => by
  refine ⟨fun c hc => ?_, fun hi => ⟨xs, hq, by rw [d.length, ← enumD_length]; exact hi⟩⟩
  obtain ⟨c', hc', rfl⟩ := enumD_get hc
  obtain ⟨v, g1, g2⟩ := d.at hc'
  refine ⟨⟨xs, v, hq, g1⟩, fun x H' ⟨T, y, e, hf, e2, h⟩ => ?_⟩
  subst e e2
  have : y = v := by
    have := h xs hq
    rw [g1] at this
    exact (Option.some.inj this).symm
  subst this
  obtain ⟨f1, f2, S2⟩ := S.newT hf (vs := [.int (i : Nat), y]) (xs := [.int (i : Nat), c']) (.cons (.int _) (.cons g2 .nil))
  exact ⟨_, f1, f2, S2.pop, S2.fr.2⟩
def zipD (xs ys : List PyData) : List PyData := List.zipWith (fun x y => .tuple [x, y]) xs ys
theorem zipD_get {xs ys : List PyData} {i : Nat} {c : PyData} (h : (zipD xs ys)[i]? = some c) : ∃ x y, xs[i]? = some x ∧ ys[i]? = some y ∧ c = .tuple [x, y] := by
  unfold zipD at h
  rw [List.getElem?_zipWith] at h
  cases hx : xs[i]? with
  | none => rw [hx] at h; cases h
  | some x =>
    cases hy : ys[i]? with
    | none => rw [hx, hy] at h; cases h
    | some y => rw [hx, hy] at h; exact ⟨x, y, rfl, rfl, by rw [← Option.some.inj h]⟩
theorem iter_zT {a b : Addr} {ds es : List PyData} : IterP Z (RZ.ItzT Z.K a b) (zipD ds es) (fun Fz H => (∃ xs, SqT Z.K H a xs ∧ Dvs Z.K Fz xs ds) ∧ ∃ ys, SqT Z.K H b ys ∧ Dvs Z.K Fz ys es) := fun Fz H σ ev F ⟨⟨xs, hq, d⟩, ys, hq2, d2⟩ S i => by
  refine ⟨fun c hc => ?_, fun hi => ⟨xs, ys, hq, hq2, ?_⟩⟩
  · obtain ⟨c1, c2, h1, h2, rfl⟩ := zipD_get hc
    obtain ⟨v, g1, g2⟩ := d.at h1
    obtain ⟨u, k1, k2⟩ := d2.at h2
    refine ⟨⟨xs, ys, v, u, hq, hq2, g1, k1⟩, fun x H' ⟨T, y, z, e, hf, e2, h, h'⟩ => ?_⟩
    subst e e2
    have : y = v := by
      have := h xs hq
      rw [g1] at this
      exact (Option.some.inj this).symm
    subst this
    have : z = u := by
      have := h' ys hq2
      rw [k1] at this
      exact (Option.some.inj this).symm
    subst this
    obtain ⟨f1, f2, S2⟩ := S.newT hf (vs := [y, z]) (xs := [c1, c2]) (.cons g2 (.cons k2 .nil))
    exact ⟨_, f1, f2, S2.pop, S2.fr.2⟩
  · unfold zipD at hi
    rw [List.length_zipWith] at hi
    rw [d.length, d2.length]
    omega
theorem iter_zL {a b : Addr} {ds es : List PyData} : IterP Z (Itz Z.K a b) (zipD ds es) (fun Fz H => (∃ xs, SqL Z.K H a xs ∧ Dvs Z.K Fz xs ds) ∧ ∃ ys, SqL Z.K H b ys ∧ Dvs Z.K Fz ys es) := fun Fz H σ ev F ⟨⟨xs, hq, d⟩, ys, hq2, d2⟩ S i => by
  refine ⟨fun c hc => ?_, fun hi => ⟨xs, ys, hq, hq2, ?_⟩⟩
  · obtain ⟨c1, c2, h1, h2, rfl⟩ := zipD_get hc
    obtain ⟨v, g1, g2⟩ := d.at h1
    obtain ⟨u, k1, k2⟩ := d2.at h2
    refine ⟨⟨xs, ys, v, u, hq, hq2, g1, k1⟩, fun x H' ⟨T, y, z, e, hf, e2, h, h'⟩ => ?_⟩
    subst e e2
    have : y = v := by
      have := h xs hq
      rw [g1] at this
      exact (Option.some.inj this).symm
    subst this
    have : z = u := by
      have := h' ys hq2
      rw [k1] at this
      exact (Option.some.inj this).symm
    subst this
    obtain ⟨f1, f2, S2⟩ := S.newT hf (vs := [y, z]) (xs := [c1, c2]) (.cons g2 (.cons k2 .nil))
    exact ⟨_, f1, f2, S2.pop, S2.fr.2⟩
  · unfold zipD at hi
    rw [List.length_zipWith] at hi
    rw [d.length, d2.length]
    omega
end
end DL

set_option maxRecDepth 100000
namespace DL
open PySem PySem.Spec PyProof.Rows L2
open Evl (Ex Ex.refl Ex.trans Ex.new Ex.mut ex_l ex_t ex_rd fresh_back)

/-! ### where a walk's items come from -/
abbrev WI := En → (List PyData → En → Prop) → Prop
def EvIg (g f : Bool) (Z : Px) (wi : TI) (w : WI) : Prop := ∀ (σ : L2.St) (H : Hp) (R' : It → Hp → Prop) (Fz : Hp) (ev : AEn) (F : Fr) (R : List PyData → En → Prop), SA Z Fz H σ ev F → w (AEn.er ev) R →
  (∀ J H' Fz' its ev', R its (AEn.er ev') → Ex Fz Fz' → (g = true → Ex H H') → SA Z Fz' H' σ ev' F → IterP Z J its (fun F2 H2 => Ex Fz' F2 ∧ (f = true → Ex H' H2)) → R' J H') → wi σ H R'
structure DIg (g f : Bool) (X : Cx) (tg iter : Expr) (w : WI) : Prop where
  ex : ∃ wi, PI X tg iter wi ∧ EvIg g f X.px wi w
theorem IterP.mono' {Z : Px} {J : It} {its : List PyData} {P P' : Hp → Hp → Prop} (h : IterP Z J its P) (m : ∀ Fz H, Ex Fz H → P' Fz H → P Fz H) : IterP Z J its P' := fun Fz H σ ev F p S => h Fz H σ ev F (m Fz H S.ex p) S
/-- data that never changes -/
def T.fzD : T → Option (List PyData)
  | .dat (.list xs) => some xs
  | .dat (.tuple xs) => some xs
  | .scr ns => some (ns.map PyData.int)
  | _ => none
theorem fzD_of {Z : Px} {Fz H : Hp} {a : A} {v : V} {xs : List PyData} (h : a.er.fzD = some xs) (o : Own Z Fz H a v) : ∃ p vs, v = .ref p ∧ (SqL Z.K Fz p vs ∨ SqT Z.K Fz p vs) ∧ Dvs Z.K Fz vs xs := by
  cases a with
  | dat x =>
    cases x with
    | list ys =>
      cases h
      cases (show Dv Z.K Fz v (.list xs) from o) with
      | lst h1 h2 => exact ⟨_, _, rfl, .inl (.inl (.inl h1)), h2⟩
    | tuple ys =>
      cases h
      cases (show Dv Z.K Fz v (.tuple xs) from o) with
      | tup h1 h2 => exact ⟨_, _, rfl, .inr h1, h2⟩
    | _ => cases h
  | scr ns =>
    cases h
    obtain ⟨p, rfl, q⟩ := (show ∃ a, v = .ref a ∧ SqL Z.K Fz a (ns.map V.int) from o)
    exact ⟨p, _, rfl, .inl q, dvs_ints ns⟩
  | nd a dx k ts => cases k <;> cases h
def iU (w : WU) : WI := fun en Q => w en fun t => asO t.fzD fun xs => Q xs en
def iH (w : WU) : WI := fun en Q => w en fun t => asO t.sqK fun xs => Q xs en
def iE (w : WE) : WI := fun en Q => w en fun t en1 => asO t.fzD fun xs => Q xs en1
section
variable {g f : Bool} {X : Cx} {tg e a b : Expr} {pos p : Pos}
theorem di_u {w : WU} (h : DU X e w) : DIg g f X tg e (iU w) := by
  obtain ⟨t, h1, h2⟩ := h
  refine ⟨_, pi_any h1, fun σ H R' Fz ev F R S hw k => ?_⟩
  refine h2 σ H _ Fz ev F _ S hw fun v H1 Fz1 ar r1 ef1 eh1 S1 o1 => ?_
  obtain ⟨xs, e1, r⟩ := asO_of r1
  obtain ⟨p, vs, rfl, hs, d⟩ := fzD_of e1 o1
  refine ⟨p, rfl, ?_⟩
  rcases hs with hq | hq
  · exact .inl ⟨⟨vs, ex_l S1.ex hq⟩, k _ H1 Fz1 xs ev r ef1 (fun _ => eh1) S1 (iter_l.mono' fun F2 H2 e h => ⟨vs, ex_l (h.1.trans e) hq, dps_mono h.1 _ _ d⟩)⟩
  · exact .inr (.inl ⟨⟨vs, ex_t S1.ex hq⟩, k _ H1 Fz1 xs ev r ef1 (fun _ => eh1) S1 (iter_t.mono' fun F2 H2 e h => ⟨vs, ex_t (h.1.trans e) hq, dps_mono h.1 _ _ d⟩)⟩)
theorem di_e {w : WE} (h : DE X e w) : DIg false f X tg e (iE w) := by
  obtain ⟨t, h1, h2⟩ := h
  refine ⟨_, pi_any h1, fun σ H R' Fz ev F R S hw k => ?_⟩
  refine h2 σ H _ Fz ev F _ S hw fun v H1 Fz1 ar ev1 r1 ef1 S1 => ?_
  obtain ⟨xs, e1, r⟩ := asO_of r1
  obtain ⟨p, vs, rfl, hs, d⟩ := fzD_of e1 S1.fr.2
  refine ⟨p, rfl, ?_⟩
  rcases hs with hq | hq
  · exact .inl ⟨⟨vs, ex_l S1.ex hq⟩, k _ H1 Fz1 xs ev1 r ef1 (fun z => nomatch z) S1.pop (iter_l.mono' fun F2 H2 e h => ⟨vs, ex_l (h.1.trans e) hq, dps_mono h.1 _ _ d⟩)⟩
  · exact .inr (.inl ⟨⟨vs, ex_t S1.ex hq⟩, k _ H1 Fz1 xs ev1 r ef1 (fun z => nomatch z) S1.pop (iter_t.mono' fun F2 H2 e h => ⟨vs, ex_t (h.1.trans e) hq, dps_mono h.1 _ _ d⟩)⟩)
theorem di_h {w : WU} (h : DU X e w) : DIg true true X tg e (iH w) := by
  obtain ⟨t, h1, h2⟩ := h
  refine ⟨_, pi_any h1, fun σ H R' Fz ev F R S hw k => ?_⟩
  refine h2 σ H _ Fz ev F _ S hw fun v H1 Fz1 ar r1 ef1 eh1 S1 o1 => ?_
  obtain ⟨xs, e1, r⟩ := asO_of r1
  rcases sqK_cases e1 with e1 | ⟨p, dx, d, ks, ts, rfl, rfl⟩
  · obtain ⟨p, vs, rfl, hs, d⟩ := sqD_of e1 S1.ex o1
    refine ⟨p, rfl, ?_⟩
    rcases hs with ⟨hq, _⟩ | ⟨hq, _⟩
    · exact .inl ⟨⟨vs, hq⟩, k _ H1 Fz1 xs ev r ef1 (fun _ => eh1) S1 (iter_l.mono fun F2 H2 h => ⟨vs, ex_l (h.2 rfl) hq, dps_mono h.1 _ _ d⟩)⟩
    · exact .inr (.inl ⟨⟨vs, hq⟩, k _ H1 Fz1 xs ev r ef1 (fun _ => eh1) S1 (iter_t.mono fun F2 H2 h => ⟨vs, ex_t (h.2 rfl) hq, dps_mono h.1 _ _ d⟩)⟩)
  · obtain ⟨rfl, vs, n, os⟩ := o1
    refine ⟨p, rfl, .inr (.inr ?_)⟩
    cases (show DicAt X.px Fz1 H1 p d ks vs from n) with
    | flat es ep c1 e2 e3 =>
      refine ⟨e3, .inr ⟨es, ep, c1, k _ H1 Fz1 _ ev (by rw [List.map_map] at r; exact r) ef1 (fun _ => eh1) S1 (iter_f.mono fun F2 H2 h => h.2 rfl _ _ c1)⟩⟩
    | deep es ep c1 e4 e5 e6 e7 =>
      refine ⟨e6, .inl ⟨es, ep, c1, k _ H1 Fz1 _ ev (by rw [List.map_map] at r; exact r) ef1 (fun _ => eh1) S1 (iter_d.mono fun F2 H2 h => ⟨h.2 rfl _ _ c1, fun e he => dp_mono h.1 _ _ (e7 e he).1⟩)⟩⟩
def iR1 (w : WE) : WI := fun en Q => w en fun r en1 => asI r fun n => -(2 ^ 62) ≤ n ∧ n < 2 ^ 62 ∧ Q (rngD 0 n.toNat) en1
theorem di_rng1 {w : WE} (hm : X.mg "range" = none) (hg : Gl X "range") (h : DEg g X a w) (hs : starEach [a] X.env = [(false, eval a X.env)] := by rfl) : DIg g f X tg (.Call (.Name "range" p) [a] [] pos) (iR1 w) := by
  obtain ⟨t, h1, h2⟩ := h
  refine ⟨_, pi_range1 hg hm (pa_cons h1 pa_nil hs) hs, fun σ H R' Fz ev F R S hw k => ?_⟩
  refine h2 σ H _ Fz ev F _ S hw fun v H1 Fz1 ar ev1 r1 ef1 eh1 S1 => ?_
  obtain ⟨i, rfl, rfl, r, r', r2⟩ := asI_of r1 S1.fr.2
  exact ⟨i, rfl, r, r', k _ H1 Fz1 _ ev1 r2 ef1 eh1 S1.pop iter_r⟩
def iR2 (w w' : WE) : WI := fun en Q => w en fun r en1 => w' en1 fun r' en2 => asI r fun m => asI r' fun n => (-(2 ^ 62) ≤ m ∧ m < 2 ^ 62 ∧ -(2 ^ 62) ≤ n ∧ n < 2 ^ 62) ∧ Q (rngD m (n - m).toNat) en2
theorem di_rng2 {w w' : WE} (hm : X.mg "range" = none) (hg : Gl X "range") (h : DEg g X a w) (h' : DEg g X b w') (hs : starEach [a, b] X.env = [(false, eval a X.env), (false, eval b X.env)] := by rfl) (hs2 : starEach [b] X.env = [(false, eval b X.env)] := by rfl) :
    DIg g f X tg (.Call (.Name "range" p) [a, b] [] pos) (iR2 w w') := by
  obtain ⟨t, h1, h2⟩ := h
  obtain ⟨t', h3, h4⟩ := h'
  refine ⟨_, pi_range2 hg hm (pa_cons h1 (pa_cons h3 pa_nil hs2) (by rw [hs, hs2])) hs hs2, fun σ H R' Fz ev F R S hw k => ?_⟩
  refine h2 σ H _ Fz ev F _ S hw fun v H1 Fz1 ar ev1 r1 ef1 eh1 S1 => ?_
  refine h4 σ H1 _ Fz1 ev1 _ _ S1 r1 fun v2 H2 Fz2 br ev2 r2 ef2 eh2 S2 => ?_
  obtain ⟨i, rfl, rfl, r2⟩ := asI_of r2 S2.fr.1.2
  obtain ⟨j, rfl, rfl, r2⟩ := asI_of r2 S2.fr.2
  exact ⟨i, j, rfl, r2.1, k _ H2 Fz2 _ ev2 r2.2 (ef1.trans ef2) (fun z => (eh1 z).trans (eh2 z)) S2.pop.pop iter_r⟩
def iEn (w : WU) : WI := fun en Q => w en fun t => asO t.fzD fun xs => Q (enumD xs) en
theorem di_enum {w : WU} {elts : List Expr} {kk : Nat} {tpos : Pos} (hm : X.mg "enumerate" = none) (hg : Gl X "enumerate") (h : DU X a w) (hs : starEach [a] X.env = [(false, eval a X.env)] := by rfl) : DIg g f X (.Tuple elts kk tpos) (.Call (.Name "enumerate" p) [a] [] pos) (iEn w) := by
  obtain ⟨t, h1, h2⟩ := h
  refine ⟨_, pi_enumT hg hm (pa_cons h1 pa_nil hs) hs, fun σ H R' Fz ev F R S hw k => ?_⟩
  refine h2 σ H _ Fz ev F _ S hw fun v H1 Fz1 ar r1 ef1 eh1 S1 o1 => ?_
  obtain ⟨xs, e1, r⟩ := asO_of r1
  obtain ⟨p, vs, rfl, hs, d⟩ := fzD_of e1 o1
  refine ⟨p, vs, rfl, ?_⟩
  rcases hs with hq | hq
  · exact .inl ⟨ex_l S1.ex hq, k _ H1 Fz1 _ ev r ef1 (fun _ => eh1) S1 (iter_e.mono' fun F2 H2 e h => ⟨vs, ex_l (h.1.trans e) hq, dps_mono h.1 _ _ d⟩)⟩
  · exact .inr ⟨ex_t S1.ex hq, k _ H1 Fz1 _ ev r ef1 (fun _ => eh1) S1 (iter_eT.mono' fun F2 H2 e h => ⟨vs, ex_t (h.1.trans e) hq, dps_mono h.1 _ _ d⟩)⟩
/-- both tuples -/
def iZ (w w' : WU) : WI := fun en Q => w en fun x => w' en fun y => asO x.tpD fun xs => asO y.tpD fun ys => Q (zipD xs ys) en
theorem di_zip {w w' : WU} {elts : List Expr} {kk : Nat} {tpos : Pos} (hm : X.mg "zip" = none) (hg : Gl X "zip") (h : DU X a w) (h' : DU X b w') (hs : starEach [a, b] X.env = (false, eval a X.env) :: starEach [b] X.env := by rfl)
    (hs2 : starEach [b] X.env = (false, eval b X.env) :: starEach [] X.env := by rfl) (hpl : (backTo pos (starEach [b] X.env)).any (·.1) = false := by rfl) : DIg g f X (.Tuple elts kk tpos) (.Call (.Name "zip" p) [a, b] [] pos) (iZ w w') := by
  obtain ⟨t, h1, h2⟩ := h
  obtain ⟨t', h3, h4⟩ := h'
  refine ⟨_, RZ.pi_zipA hg hm (pa_cons h1 (pa_cons h3 pa_nil hs2) hs) hs hpl, fun σ H R' Fz ev F R S hw k => ?_⟩
  refine h2 σ H _ Fz ev F _ S hw fun v H1 Fz1 ar r1 ef1 eh1 S1 o1 => ?_
  refine h4 σ H1 _ Fz1 ev F _ S1 r1 fun u H2 Fz2 br r2 ef2 eh2 S2 o2 => ?_
  obtain ⟨xs, e1, r2⟩ := asO_of r2
  obtain ⟨ys, e2, r2⟩ := asO_of r2
  obtain ⟨p, vs, rfl, q1, d1⟩ := tpD_of e1 (o1.ext ef2 eh2)
  obtain ⟨q, us, rfl, q2, d2⟩ := tpD_of e2 o2
  exact ⟨p, q, vs, us, rfl, .inr ⟨ex_t S2.ex q1, ex_t S2.ex q2, k _ H2 Fz2 _ ev r2 (ef1.trans ef2) (fun _ => eh1.trans eh2) S2 (RZ_iter q1 q2 d1 d2)⟩⟩
where
  RZ_iter {Fz2 H2 : Hp} {p q : Addr} {vs us : List V} {xs ys : List PyData} (q1 : SqT X.px.K Fz2 p vs) (q2 : SqT X.px.K Fz2 q us) (d1 : Dvs X.px.K Fz2 vs xs) (d2 : Dvs X.px.K Fz2 us ys) : IterP X.px (RZ.ItzT X.px.K p q) (zipD xs ys) (fun F2 H' => Ex Fz2 F2 ∧ (f = true → Ex H2 H')) :=
    iter_zT.mono' fun F2 H2 e h => ⟨⟨vs, ex_t (h.1.trans e) q1, dps_mono h.1 _ _ d1⟩, us, ex_t (h.1.trans e) q2, dps_mono h.1 _ _ d2⟩
/-- a slot's list changes no more -/
def frzJ (j : Nat) (en : En) (Q : PyData → En → Prop) : Prop := match en[j]? with
  | some s => match s.tr with
    | some t => match t.data? with
      | some x => Q x (killL j 0 (en.set j (s.with (.dat x))))
      | none => False
    | none => False
  | none => False
theorem frzJ_of {Z : Px} {Fz H : Hp} {σ : L2.St} {ev : AEn} {F : Fr} (S : SA Z Fz H σ ev F) {j : Nat} {Q : PyData → En → Prop} (h : frzJ j (AEn.er ev) Q) :
    ∃ Fz' ev' x v, Ex Fz Fz' ∧ SA Z Fz' H σ ev' F ∧ Q x (AEn.er ev') ∧ σ[j]? = some (some v) ∧ Dv Z.K Fz' v x := by
  unfold frzJ at h
  rw [AEn.er_get] at h
  cases hj : ev[j]? with
  | none => rw [hj] at h; exact h.elim
  | some u =>
    rw [hj] at h
    have h' : (match (u.map A.er).tr with | some t => (match t.data? with | some x => Q x (killL j 0 ((AEn.er ev).set j ((u.map A.er).with (.dat x)))) | none => False) | none => False) := h
    rw [Sl.map_tr] at h'
    cases hu : u.tr with
    | none => rw [hu] at h'; exact h'.elim
    | some t =>
      rw [hu] at h'
      have h2 : (match t.er.data? with | some x => Q x (killL j 0 ((AEn.er ev).set j ((u.map A.er).with (.dat x)))) | none => False) := h'
      cases hx : t.er.data? with
      | none => rw [hx] at h2; exact h2.elim
      | some x =>
        rw [hx] at h2
        obtain ⟨Fz', ef, S'⟩ := S.frzSlot hj hu hx
        have hl : j < ev.length := (List.getElem?_eq_some_iff.mp hj).1
        obtain ⟨v, g1, g2⟩ := S'.sl j (u.with (.dat x)) (.dat x) (by
          unfold killL
          rw [List.getElem?_map, List.getElem?_set_self hl]
          cases u <;> first | rfl | cases hu) (Sl.with_tr hu)
        refine ⟨Fz', _, x, v, ef, S', ?_, g1, g2⟩
        rw [killL_er, er_set]
        have : (u.with (A.dat x)).map A.er = (u.map A.er).with (.dat x) := by cases u <;> rfl
        rw [this]
        exact h2
def iFz (j : Nat) : WI := fun en Q => frzJ j en fun x en1 => asO (T.dat x).fzD fun xs => Q xs en1
theorem di_fz {j : Nat} {x : Str} (hN : X.N[j]? = some x := by rfl) (hv : Vis X.env.scope x := by first | exact Or.inl rfl | exact Or.inr (Or.inl rfl) | exact Or.inr (Or.inr rfl)) (hd : (x == ("__debug__" : Str)) = false := by decide)
    (hcd : (x == ("__classdict__" : Str)) = false := by decide) : DIg false f X tg (.Name x pos) (iFz j) := by
  refine ⟨_, pi_any (pe_var hN hv hd hcd), fun σ H R' Fz ev F R S hw k => ?_⟩
  obtain ⟨Fz1, ev1, c, v, ef1, S1, hq, hσ, dv⟩ := frzJ_of S hw
  obtain ⟨xs, e1, r⟩ := asO_of hq
  obtain ⟨p, vs, rfl, hs, d⟩ := fzD_of (Z := X.px) (Fz := Fz1) (H := H) (a := .dat c) (v := v) e1 dv
  refine ⟨_, hσ, p, rfl, ?_⟩
  rcases hs with hq | hq
  · exact .inl ⟨⟨vs, ex_l S1.ex hq⟩, k _ H Fz1 xs ev1 r ef1 (fun z => nomatch z) S1 (iter_l.mono' fun F2 H2 e h => ⟨vs, ex_l (h.1.trans e) hq, dps_mono h.1 _ _ d⟩)⟩
  · exact .inr (.inl ⟨⟨vs, ex_t S1.ex hq⟩, k _ H Fz1 xs ev1 r ef1 (fun z => nomatch z) S1 (iter_t.mono' fun F2 H2 e h => ⟨vs, ex_t (h.1.trans e) hq, dps_mono h.1 _ _ d⟩)⟩)
end

/-! ### targets -/
abbrev WG := T → En → (En → Prop) → Prop
def EvG (Z : Px) (tv : List Nat) (t : TG) (w : WG) : Prop := ∀ (σ : L2.St) (H : Hp) (Q : L2.St → Hp → Prop) (Fz : Hp) (ev : AEn) (F : Fr) (a : A) (v : V) (R : En → Prop), SA Z Fz H σ ev (F.add (.of Z a v)) → w a.er (AEn.er ev) R →
  (∀ σ' H' Fz' ev', R (AEn.er ev') → Ex Fz Fz' → Ex H H' → (∀ i, i ∉ tv → σ'[i]? = σ[i]?) → σ'.length = σ.length → SA Z Fz' H' σ' ev' F → Q σ' H') → t v σ H Q
structure DG (X : Cx) (tg : Expr) (tv : List Nat) (w : WG) : Prop where
  ex : ∃ t, PG X tg t ∧ EvG X.px tv t w
def EvGs (Z : Px) (tv : List Nat) (t : TGs) (w : List PyData → En → (En → Prop) → Prop) : Prop := ∀ (σ : L2.St) (H : Hp) (Q : L2.St → Hp → Prop) (Fz : Hp) (ev : AEn) (F : Fr) (xs : List PyData) (vs : List V) (R : En → Prop), SA Z Fz H σ ev F → Dvs Z.K Fz vs xs → w xs (AEn.er ev) R →
  (∀ σ' H' Fz' ev', R (AEn.er ev') → Ex Fz Fz' → Ex H H' → (∀ i, i ∉ tv → σ'[i]? = σ[i]?) → σ'.length = σ.length → SA Z Fz' H' σ' ev' F → Q σ' H') → t vs σ H Q
structure DGs (X : Cx) (tgs : List Expr) (tv : List Nat) (w : List PyData → En → (En → Prop) → Prop) : Prop where
  ex : ∃ t, PGs X tgs t ∧ EvGs X.px tv t w
def wSet (i : Nat) (r : T) (en : En) (Q : En → Prop) : Prop := match en[i]? with
  | some _ => frc (killL i 0 (en.set i (.own r))) Q
  | none => False
theorem wSet_of {ev : AEn} {i : Nat} {r : A} {Q : En → Prop} (h : wSet i r.er (AEn.er ev) Q) : i < ev.length ∧ Q (AEn.er (killL i 0 (ev.set i (.own r)))) := by
  unfold wSet at h
  rw [AEn.er_get] at h
  cases hi : ev[i]? with
  | none => rw [hi] at h; exact h.elim
  | some u =>
    rw [hi] at h
    refine ⟨(List.getElem?_eq_some_iff.mp hi).1, ?_⟩
    rw [killL_er, er_set]
    exact (frc_eq _ _).mp h
section
variable {X : Cx} {pos : Pos}
theorem dg_name {i : Nat} {x : Str} (hN : X.N.Nodup) (hi : X.N[i]? = some x := by rfl) (hx : Loc X.env.scope x := by first | exact .inl rfl | exact .inr rfl) (hf : X.fn x = true ∨ X.env.scope.names.lookup x = some .local := by first | exact .inl rfl | exact .inr rfl) : DG X (.Name x pos) [i] (wSet i) := by
  refine ⟨_, pg_name hN hi hx hf, fun σ H Q Fz ev F a v R S hw k => ?_⟩
  obtain ⟨hl, r⟩ := wSet_of hw
  refine k _ H Fz _ r (Ex.refl _) (Ex.refl _) (fun j hj => ?_) (by rw [List.length_set]) (S.put hl)
  rw [List.getElem?_set_ne (fun e => hj (by rw [e]; exact List.mem_singleton.mpr rfl))]
theorem dgs_nil : DGs X [] [] (fun xs en Q => xs = [] ∧ Q en) := ⟨_, pgs_nil, fun σ H Q Fz ev F xs vs R S d hw k => by
  obtain ⟨rfl, r⟩ := hw
  cases d
  exact ⟨rfl, k σ H Fz ev r (Ex.refl _) (Ex.refl _) (fun _ _ => rfl) rfl S⟩⟩
def wCons (w : WG) (wr : List PyData → En → (En → Prop) → Prop) : List PyData → En → (En → Prop) → Prop := fun xs en Q => match xs with
  | x :: xs => w (.dat x) en fun en1 => wr xs en1 Q
  | [] => False
theorem dgs_cons {e : Expr} {es : List Expr} {tv tvs : List Nat} {w : WG} {wr : List PyData → En → (En → Prop) → Prop} (h : DG X e tv w) (hr : DGs X es tvs wr) (hs : (assignEach (e :: es) X.env).map (·.2) = assign e X.env :: (assignEach es X.env).map (·.2) := by rfl) : DGs X (e :: es) (tv ++ tvs) (wCons w wr) := by
  obtain ⟨t, h1, h2⟩ := h
  obtain ⟨tr, h3, h4⟩ := hr
  refine ⟨_, pgs_cons h1 h3 hs, fun σ H Q Fz ev F xs vs R S d hw k => ?_⟩
  cases xs with
  | nil => exact hw.elim
  | cons x xs =>
    cases d with
    | cons d1 d2 =>
      refine ⟨_, _, rfl, ?_⟩
      refine h2 σ H _ Fz ev F (.dat x) _ _ (S.pushD d1) hw fun σ1 H1 Fz1 ev1 r1 ef1 eh1 g1 l1 S1 => ?_
      refine h4 σ1 H1 _ Fz1 ev1 F xs _ _ S1 (dps_mono ef1 _ _ d2) r1 fun σ2 H2 Fz2 ev2 r2 ef2 eh2 g2 l2 S2 => ?_
      exact k σ2 H2 Fz2 ev2 r2 (ef1.trans ef2) (eh1.trans eh2) (fun i hi => (g2 i fun m => hi (List.mem_append_right _ m)).trans (g1 i fun m => hi (List.mem_append_left _ m))) (l2.trans l1) S2
def wTupG (n : Nat) (wr : List PyData → En → (En → Prop) → Prop) : WG := fun r en Q => match r with
  | .dat (.tuple xs) => xs.length = n ∧ wr xs en Q
  | _ => False
theorem dg_tup {es : List Expr} {k : Nat} {n : Nat} {tv : List Nat} {wr : List PyData → En → (En → Prop) → Prop} (hc : X.calm = true) (h : DGs X es tv wr) (hn : (assignEach es X.env).length = n := by rfl) (hst : (assignEach es X.env).findIdx? (·.1) = none := by rfl) : DG X (.Tuple es k pos) tv (wTupG n wr) := by
  obtain ⟨t, h1, h2⟩ := h
  refine ⟨_, pg_tup hc h1 hn hst, fun σ H Q Fz ev F a v R S hw k => ?_⟩
  cases a with
  | scr ns => exact hw.elim
  | nd a dx kd ts => exact hw.elim
  | dat c =>
    cases c with
    | tuple xs =>
      cases (show Dv X.K Fz v (.tuple xs) from S.fr.2) with
      | tup q d => exact ⟨_, _, rfl, ex_t S.ex q, by rw [d.length]; exact hw.1, h2 σ H Q Fz ev F xs _ R S.pop d hw.2 k⟩
    | _ => exact hw.elim
end
end DL

set_option maxRecDepth 100000
namespace DL
open PySem PySem.Spec PyProof.Rows L2
open Evl (Ex Ex.refl Ex.trans Ex.new Ex.mut ex_l ex_t ex_rd fresh_back)

/-! ### the same reading in every block of a comprehension -/
section
variable {g f : Bool} {X : Cx} {scope : Scope} {w : WE} {wt : WT} {wg : WG} {wi : WI} {tv : List Nat} {e tg iter : Expr} {ifs : List Expr}
abbrev bk (X : Cx) (scope : Scope) (s : Shared) (H : Hp) (C : Addr) (cl : List (Str × Addr)) (fp : List Addr) : Cx := X.blk s H scope (compEnvC scope cl C X.env) fp
theorem deg_fam (h : ∀ s H C cl fp, DEg g (bk X scope s H C cl fp) e w) : ∃ t, (∀ s H C cl fp, PE (bk X scope s H C cl fp) e t) ∧ EvEg g X.px t w := by
  refine ⟨fun σ H0 Q => ∀ s H C cl fp pins s', Inv (bk X scope s H C cl fp) pins σ H0 s' → wpAny (model X.prog X.w) X.A (eval e (bk X scope s H C cl fp).env) (EP (bk X scope s H C cl fp) pins σ Q) (bk X scope s H C cl fp).xe s', fun s H C cl fp => ⟨fun pins s' σ H0 Q I q => q s H C cl fp pins s' I⟩, fun σ H0 Q Fz ev F R S hw k => fun s H C cl fp pins s' I => ?_⟩
  obtain ⟨t, h1, h2⟩ := h s H C cl fp
  exact h1.run pins s' σ H0 Q I (h2 σ H0 Q Fz ev F R S hw k)
theorem dtg_fam (h : ∀ s H C cl fp, DTg g (bk X scope s H C cl fp) ifs wt) : ∃ t, (∀ s H C cl fp, PTs (bk X scope s H C cl fp) ifs t) ∧ EvTg g X.px t wt := by
  refine ⟨fun σ H0 Q => ∀ s H C cl fp pins s', Inv (bk X scope s H C cl fp) pins σ H0 s' → wpAny (model X.prog X.w) X.A (forIn ifs true fun c r => if r = true then do let ok ← isTrue c (bk X scope s H C cl fp).env (eval c (bk X scope s H C cl fp).env); pure (ForInStep.yield ok) else pure (ForInStep.yield r)) (TP (bk X scope s H C cl fp) pins σ Q) (bk X scope s H C cl fp).xe s', fun s H C cl fp => ⟨fun pins s' σ H0 Q I q => q s H C cl fp pins s' I⟩, fun σ H0 Q Fz ev F R S hw k => fun s H C cl fp pins s' I => ?_⟩
  obtain ⟨t, h1, h2⟩ := h s H C cl fp
  exact h1.run pins s' σ H0 Q I (h2 σ H0 Q Fz ev F R S hw k)
theorem dg_fam (h : ∀ s H C cl fp, DG (bk X scope s H C cl fp) tg tv wg) : ∃ t, (∀ s H C cl fp, PG (bk X scope s H C cl fp) tg t) ∧ EvG X.px tv t wg := by
  refine ⟨fun v σ H0 Q => ∀ s H C cl fp pins s' u, Inv (bk X scope s H C cl fp) pins σ H0 s' → RelV v u → wpAny (model X.prog X.w) X.A (assign tg (bk X scope s H C cl fp).env u) (fun _ s2 => ∃ σ' H', Inv (bk X scope s H C cl fp) pins σ' H' s2 ∧ Q σ' H') (bk X scope s H C cl fp).xe s', fun s H C cl fp => ⟨fun pins s' σ H0 v u Q I r q => q s H C cl fp pins s' u I r⟩, fun σ H0 Q Fz ev F a v R S hw k => fun s H C cl fp pins s' u I r => ?_⟩
  obtain ⟨t, h1, h2⟩ := h s H C cl fp
  exact h1.run pins s' σ H0 v u Q I r (h2 σ H0 Q Fz ev F a v R S hw k)
theorem di_fam (h : ∀ s H C cl fp, DIg g f (bk X scope s H C cl fp) tg iter wi) : ∃ t, (∀ s H C cl fp, PI (bk X scope s H C cl fp) tg iter t) ∧ EvIg g f X.px t wi := by
  refine ⟨fun σ H0 R => ∀ s H C cl fp pins s', Inv (bk X scope s H C cl fp) pins σ H0 s' → wpAny (model X.prog X.w) X.A (eval iter (bk X scope s H C cl fp).env) (fun v s1 => wpAny (model X.prog X.w) X.A (pyIter v) (PIE (bk X scope s H C cl fp) pins σ tg R) (bk X scope s H C cl fp).xe s1) (bk X scope s H C cl fp).xe s', fun s H C cl fp => ⟨fun pins s' σ H0 R I q => q s H C cl fp pins s' I⟩, fun σ H0 R' Fz ev F R S hw k => fun s H C cl fp pins s' I => ?_⟩
  obtain ⟨t, h1, h2⟩ := h s H C cl fp
  exact h1.run pins s' σ H0 R' I (h2 σ H0 R' Fz ev F R S hw k)
end

/-! ### list comprehensions -/
abbrev LcB := PyData → List T → En → (List T → En → Prop) → Prop
def lcGo (body : LcB) : List PyData → List T → En → (List T → En → Prop) → Prop
  | [], acc, en, Q => Q acc en
  | d :: ds, acc, en, Q => body d acc en fun acc' en' => lcGo body ds acc' en' Q
def lcB (vs : List Nat) (wG : WG) (wT : WT) (wE : WE) : LcB := fun d acc en K => wG (.dat d) en fun en2 => wT en2 fun b en3 => match b with
  | true => wE en3 fun r en4 => acc.length < sizeLine ∧ K (acc ++ [r]) (wipeE vs en4)
  | false => K acc (wipeE vs en3)
def eLc (vs : List Nat) (wI : WI) (wG : WG) (wT : WT) (wE : WE) : WE := fun en Q => wI en fun its en1 => lcGo (lcB vs wG wT wE) its [] (wipeE vs en1) fun acc en2 => Q (.nd .lst acc) en2
def lcB2 (vs vs1 : List Nat) (wG : WG) (wT : WT) (wI1 : WI) (wG1 : WG) (wT1 : WT) (wE : WE) : LcB := fun d acc en K => wG (.dat d) en fun en2 => wT en2 fun b en3 => match b with
  | true => wI1 en3 fun its1 en4 => lcGo (lcB vs1 wG1 wT1 wE) its1 acc (wipeE vs1 en4) fun acc' en' => K acc' (wipeE vs en')
  | false => K acc (wipeE vs en3)
def eLc2 (vs vs1 : List Nat) (wI : WI) (wG : WG) (wT : WT) (wI1 : WI) (wG1 : WG) (wT1 : WT) (wE : WE) : WE := fun en Q => wI en fun its en1 => lcGo (lcB2 vs vs1 wG wT wI1 wG1 wT1 wE) its [] (wipeE vs en1) fun acc en2 => Q (.nd .lst acc) en2
section
variable {Z : Px} {g f : Bool} {wi wi1 : TI} {wI wI1 : WI} {gt gt1 : TG} {wG wG1 : WG} {tt tt1 : TT} {wT wT1 : WT} {te : TE} {wE : WE} {vs vs1 tv tv1 : List Nat}
theorem ex_lst {Fz H1 H : Hp} {D : Addr} {xs : List V} (hD : H1 D = none) (e : Ex H1 H) : Ex H1 (upd H D (.lst xs)) := fun a o h => by
  rw [upd_ne (fun z => by rw [z, hD] at h; cases h)]
  exact e a o h
theorem lc_ev (hfg : f = true → g = true) (hi : EvIg g f Z wi wI) (hg : EvG Z tv gt wG) (htv : ∀ i ∈ tv, i ∈ vs) (ht : EvTg g Z tt wT) (he : EvEg g Z te wE) : EvE Z (tLc wi gt tt te vs) (eLc vs wI wG wT wE) := by
  intro σ H Q Fz ev F R S hw k
  refine hi σ H _ Fz ev F _ S hw fun J H1 Fz1 its ev1 r1 ef1 eh1 S1 iter => ?_
  intro D hD
  obtain ⟨ehD, S2⟩ := (S1.wipes vs).unwipe.new0 hD
  refine ⟨fun i m H => m = its.length - i ∧ ∃ (Fz' : Hp) (ev' : AEn) (acc : List A), Ex Fz1 Fz' ∧ (g = true → Ex H1 H) ∧ SA Z Fz' H σ (wipeE vs ev') (F.add (.of Z (.nd D 0 .lst acc) (.ref D))) ∧
    lcGo (lcB vs wG wT wE) (its.drop i) (A.ers acc) (wipeE vs (AEn.er ev')) fun acc en2 => R (.nd .lst acc) en2, ⟨_, rfl, Fz1, ev1, [], Ex.refl _, fun _ => ehD, S2, by rw [List.drop_zero]; exact r1⟩, ?_⟩
  rintro i m H2 ⟨rfl, Fz2, ev2, acc, ef2, eh2, S3, r⟩
  by_cases hi : i < its.length
  · obtain ⟨hgo, hy⟩ := (iter Fz2 H2 σ _ _ ⟨ef2, fun z => eh2 (hfg z)⟩ S3 i).1 its[i] (List.getElem?_eq_getElem hi)
    rw [List.drop_eq_getElem_cons hi] at r
    refine .inr ⟨hgo, fun H' => ∃ m', m' < its.length - i ∧ (m' = its.length - (i + 1) ∧ ∃ (Fz' : Hp) (ev' : AEn) (acc : List A), Ex Fz1 Fz' ∧ (g = true → Ex H1 H') ∧ SA Z Fz' H' σ (wipeE vs ev') (F.add (.of Z (.nd D 0 .lst acc) (.ref D))) ∧
      lcGo (lcB vs wG wT wE) (its.drop (i + 1)) (A.ers acc) (wipeE vs (AEn.er ev')) fun acc en2 => R (.nd .lst acc) en2), fun H' h => h, fun x H3 hx => ?_⟩
    have hm : its.length - (i + 1) < its.length - i := by omega
    obtain ⟨Fz3, ef3, eh3, S4, dv⟩ := hy x H3 hx
    refine hg (wipe σ vs) H3 _ Fz3 (wipeE vs ev2) _ (.dat its[i]) x _ (S4.rewipe.pushD dv) (by rw [wipeE_er]; exact r) fun σ2 H4 Fz4 ev3 r2 ef4 eh4 gσ lσ S5 => ⟨wipe_eq (fun j hj => (gσ j fun m => hj (htv j m)).trans (wipe_get _ _ _ hj)) (lσ.trans (wipe_length _ _)), ?_⟩
    have hwσ : wipe σ2 vs = wipe σ vs := wipe_eq (fun j hj => (gσ j fun m => hj (htv j m)).trans (wipe_get _ _ _ hj)) (lσ.trans (wipe_length _ _))
    refine ht σ2 H4 _ Fz4 ev3 _ _ S5 r2 fun b H5 Fz5 ev4 r3 ef5 eh5 S6 => ?_
    have ehc : g = true → Ex H1 H5 := fun z => (((eh2 z).trans eh3).trans eh4).trans (eh5 z)
    cases b with
    | false =>
      refine ⟨_, hm, rfl, Fz5, ev4, acc, (((ef2.trans ef3).trans ef4).trans ef5), ehc, ?_, r3⟩
      have := S6.wipes vs
      rw [hwσ] at this
      exact this.unwipe
    | true =>
      refine he σ2 H5 _ Fz5 ev4 _ _ S6 r3 fun y H6 Fz6 ar ev5 r4 ef6 eh6 S7 => ?_
      obtain ⟨us, hDu, hlen, S8⟩ := S7.appF
      have hwE : AEn.er (wipeE vs ev5) = wipeE vs (AEn.er ev5) := wipeE_er _ _
      refine ⟨us, hDu, by rw [← hlen, ← adss_len]; exact r4.1, _, hm, rfl, Fz6, ev5, acc ++ [ar], ((((ef2.trans ef3).trans ef4).trans ef5).trans ef6), fun z => ex_lst (Fz := Fz) hD ((ehc z).trans (eh6 z)), ?_, ?_⟩
      · have := S8.wipes vs
        rw [hwσ] at this
        exact this.unwipe
      · have e : A.ers (acc ++ [ar]) = A.ers acc ++ [ar.er] := by rw [A.ers_eq, A.ers_eq, List.map_append]; rfl
        rw [e]
        exact r4.2
  · rw [List.drop_eq_nil_of_le (by omega)] at r
    refine .inl ⟨(iter Fz2 H2 σ _ _ ⟨ef2, fun z => eh2 (hfg z)⟩ S3 i).2 (by omega), ?_⟩
    exact k (.ref D) H2 Fz2 (.nd D 0 .lst acc) (wipeE vs ev2) (by rw [wipeE_er]; exact r) (ef1.trans ef2) S3
theorem lc2_ev (hfg : f = true → g = true) (hi : EvIg g f Z wi wI) (hg : EvG Z tv gt wG) (htv : ∀ i ∈ tv, i ∈ vs) (ht : EvTg g Z tt wT) (hi1 : EvIg g false Z wi1 wI1) (hg1 : EvG Z tv1 gt1 wG1) (htv1 : ∀ i ∈ tv1, i ∈ vs1) (hv1 : ∀ i ∈ vs1, i ∈ vs) (ht1 : EvTg g Z tt1 wT1) (he : EvEg g Z te wE) :
    EvE Z (tLc2 wi gt tt wi1 gt1 tt1 te vs vs1) (eLc2 vs vs1 wI wG wT wI1 wG1 wT1 wE) := by
  intro σ H Q Fz ev F R S hw k
  refine hi σ H _ Fz ev F _ S hw fun J H1 Fz1 its ev1 r1 ef1 eh1 S1 iter => ?_
  intro D hD
  obtain ⟨ehD, S2⟩ := (S1.wipes vs).unwipe.new0 hD
  refine ⟨fun i m H => m = its.length - i ∧ ∃ (Fz' : Hp) (ev' : AEn) (acc : List A), Ex Fz1 Fz' ∧ (g = true → Ex H1 H) ∧ SA Z Fz' H σ (wipeE vs ev') (F.add (.of Z (.nd D 0 .lst acc) (.ref D))) ∧
    lcGo (lcB2 vs vs1 wG wT wI1 wG1 wT1 wE) (its.drop i) (A.ers acc) (wipeE vs (AEn.er ev')) fun acc en2 => R (.nd .lst acc) en2, ⟨_, rfl, Fz1, ev1, [], Ex.refl _, fun _ => ehD, S2, by rw [List.drop_zero]; exact r1⟩, ?_⟩
  rintro i m H2 ⟨rfl, Fz2, ev2, acc, ef2, eh2, S3, r⟩
  by_cases hi : i < its.length
  · obtain ⟨hgo, hy⟩ := (iter Fz2 H2 σ _ _ ⟨ef2, fun z => eh2 (hfg z)⟩ S3 i).1 its[i] (List.getElem?_eq_getElem hi)
    rw [List.drop_eq_getElem_cons hi] at r
    refine .inr ⟨hgo, fun H' => ∃ m', m' < its.length - i ∧ (m' = its.length - (i + 1) ∧ ∃ (Fz' : Hp) (ev' : AEn) (acc : List A), Ex Fz1 Fz' ∧ (g = true → Ex H1 H') ∧ SA Z Fz' H' σ (wipeE vs ev') (F.add (.of Z (.nd D 0 .lst acc) (.ref D))) ∧
      lcGo (lcB2 vs vs1 wG wT wI1 wG1 wT1 wE) (its.drop (i + 1)) (A.ers acc) (wipeE vs (AEn.er ev')) fun acc en2 => R (.nd .lst acc) en2), fun H' h => h, fun x H3 hx => ?_⟩
    have hm : its.length - (i + 1) < its.length - i := by omega
    obtain ⟨Fz3, ef3, eh3, S4, dv⟩ := hy x H3 hx
    refine hg (wipe σ vs) H3 _ Fz3 (wipeE vs ev2) _ (.dat its[i]) x _ (S4.rewipe.pushD dv) (by rw [wipeE_er]; exact r) fun σ2 H4 Fz4 ev3 r2 ef4 eh4 gσ lσ S5 => ⟨wipe_eq (fun j hj => (gσ j fun m => hj (htv j m)).trans (wipe_get _ _ _ hj)) (lσ.trans (wipe_length _ _)), ?_⟩
    have hwσ : wipe σ2 vs = wipe σ vs := wipe_eq (fun j hj => (gσ j fun m => hj (htv j m)).trans (wipe_get _ _ _ hj)) (lσ.trans (wipe_length _ _))
    refine ht σ2 H4 _ Fz4 ev3 _ _ S5 r2 fun b H5 Fz5 ev4 r3 ef5 eh5 S6 => ?_
    have ehc : g = true → Ex H1 H5 := fun z => (((eh2 z).trans eh3).trans eh4).trans (eh5 z)
    have efc := ((ef2.trans ef3).trans ef4).trans ef5
    cases b with
    | false =>
      refine ⟨_, hm, rfl, Fz5, ev4, acc, efc, ehc, ?_, r3⟩
      have := S6.wipes vs
      rw [hwσ] at this
      exact this.unwipe
    | true =>
      refine hi1 σ2 H5 _ Fz5 ev4 _ _ S6 r3 fun J1 H6 Fz6 its1 ev5 r4 ef6 eh6 S7 iter1 => ?_
      have S8 := (S7.wipes vs1).unwipe
      let K1 : List T → En → Prop := fun acc' en' => lcGo (lcB2 vs vs1 wG wT wI1 wG1 wT1 wE) (its.drop (i + 1)) acc' (wipeE vs en') fun acc en2 => R (.nd .lst acc) en2
      let W1 : Nat → Nat → Hp → Prop := fun j k H => k = its1.length - j ∧ ∃ (Fz' : Hp) (ev' : AEn) (acc : List A), Ex Fz6 Fz' ∧ (g = true → Ex H1 H) ∧ SA Z Fz' H σ2 (wipeE vs1 ev') (F.add (.of Z (.nd D 0 .lst acc) (.ref D))) ∧
        lcGo (lcB vs1 wG1 wT1 wE) (its1.drop j) (A.ers acc) (wipeE vs1 (AEn.er ev')) K1
      refine ⟨W1, ⟨_, rfl, Fz6, ev5, acc, Ex.refl _, fun z => (ehc z).trans (eh6 z), (S7.wipes vs1).unwipe, by rw [List.drop_zero]; exact r4⟩, ?_⟩
      rintro j m H7 ⟨rfl, Fz7, ev6, acc2, ef7, eh7, T3, q⟩
      by_cases hj : j < its1.length
      · obtain ⟨hgo1, hy1⟩ := (iter1 Fz7 H7 σ2 _ _ ⟨ef7, fun z => nomatch z⟩ T3 j).1 its1[j] (List.getElem?_eq_getElem hj)
        rw [List.drop_eq_getElem_cons hj] at q
        refine .inr ⟨hgo1, fun H' => ∃ m', m' < its1.length - j ∧ W1 (j + 1) m' H', fun H' h => h, fun x1 H8 hx1 => ?_⟩
        have hm1 : its1.length - (j + 1) < its1.length - j := by omega
        obtain ⟨Fz8, ef8, eh8, T4, dv1⟩ := hy1 x1 H8 hx1
        refine hg1 (wipe σ2 vs1) H8 _ Fz8 (wipeE vs1 ev6) _ (.dat its1[j]) x1 _ (T4.rewipe.pushD dv1) (by rw [wipeE_er]; exact q) fun σ3 H9 Fz9 ev7 q2 ef9 eh9 gσ1 lσ1 T5 => ⟨wipe_eq (fun j hj => (gσ1 j fun m => hj (htv1 j m)).trans (wipe_get _ _ _ hj)) (lσ1.trans (wipe_length _ _)), ?_⟩
        have hwσ1 : wipe σ3 vs1 = wipe σ2 vs1 := wipe_eq (fun j hj => (gσ1 j fun m => hj (htv1 j m)).trans (wipe_get _ _ _ hj)) (lσ1.trans (wipe_length _ _))
        refine ht1 σ3 H9 _ Fz9 ev7 _ _ T5 q2 fun b H10 Fz10 ev8 q3 ef10 eh10 T6 => ?_
        have ehc1 : g = true → Ex H1 H10 := fun z => (((eh7 z).trans eh8).trans eh9).trans (eh10 z)
        have efc1 := ((ef7.trans ef8).trans ef9).trans ef10
        cases b with
        | false =>
          refine ⟨_, hm1, rfl, Fz10, ev8, acc2, efc1, ehc1, ?_, q3⟩
          have := T6.wipes vs1
          rw [hwσ1] at this
          exact this.unwipe
        | true =>
          refine he σ3 H10 _ Fz10 ev8 _ _ T6 q3 fun y H11 Fz11 ar ev9 q4 ef11 eh11 T7 => ?_
          obtain ⟨us, hDu, hlen, T8⟩ := T7.appF
          refine ⟨us, hDu, by rw [← hlen, ← adss_len]; exact q4.1, _, hm1, rfl, Fz11, ev9, acc2 ++ [ar], efc1.trans ef11, fun z => ex_lst (Fz := Fz) hD ((ehc1 z).trans (eh11 z)), ?_, ?_⟩
          · have := T8.wipes vs1
            rw [hwσ1] at this
            exact this.unwipe
          · have e : A.ers (acc2 ++ [ar]) = A.ers acc2 ++ [ar.er] := by rw [A.ers_eq, A.ers_eq, List.map_append]; rfl
            rw [e]
            exact q4.2
      · rw [List.drop_eq_nil_of_le (by omega)] at q
        refine .inl ⟨(iter1 Fz7 H7 σ2 _ _ ⟨ef7, fun z => nomatch z⟩ T3 j).2 (by omega), ?_⟩
        refine ⟨_, hm, rfl, Fz7, wipeE vs1 ev6, acc2, (efc.trans ef6).trans ef7, eh7, ?_, ?_⟩
        · have := T3.wipes vs
          rw [hwσ] at this
          exact this.unwipe
        · rw [wipeE_er]
          exact q
  · rw [List.drop_eq_nil_of_le (by omega)] at r
    refine .inl ⟨(iter Fz2 H2 σ _ _ ⟨ef2, fun z => eh2 (hfg z)⟩ S3 i).2 (by omega), ?_⟩
    exact k (.ref D) H2 Fz2 (.nd D 0 .lst acc) (wipeE vs ev2) (by rw [wipeE_er]; exact r) (ef1.trans ef2) S3
end

/-- a comprehension, as a value or stored under a name -/
structure DLc (X : Cx) (e : Expr) (w : WE) : Prop where
  ex : ∃ t, PE X e t ∧ (∀ (i : Nat) (y : Str) (py spos : Pos), X.N[i]? = some y → X.env.scope.names.lookup y = some .local → swapsWith e (some (.Name y py)) spos.line X.env = pure true → PS X (.Assign [.Name y py] e spos) (tAsg t (gName i))) ∧ EvE X.px t w
section
variable {X : Cx} {g f : Bool} {elt tg iter tg1 iter1 : Expr} {ifs ifs1 : List Expr} {scope : Scope} {pos : Pos} {wI wI1 : WI} {wG wG1 : WG} {wT wT1 : WT} {wE : WE} {tv tv1 : List Nat}
theorem lc1 (own : List (Str × Nat)) (hfg : f = true → g = true) (hc : X.calm = true) (hN : X.N.Nodup) (hi : DIg g f X tg iter wI) (hg : ∀ s H C cl fp, DG (bk X scope s H C cl fp) tg tv wG) (ht : ∀ s H C cl fp, DTg g (bk X scope s H C cl fp) ifs wT) (he : ∀ s H C cl fp, DEg g (bk X scope s H C cl fp) elt wE)
    (ok : blkC X.N X.env.scope scope own = true) (htv : ∀ i ∈ tv, i ∈ own.map (·.2) := by decide) (hs : ∀ x, foldedSetIterable iter X.env x = pure x := by intro _; rfl) : DLc X (.ListComp elt [⟨tg, iter, ifs, 0⟩] scope pos) (eLc (own.map (·.2)) wI wG wT wE) := by
  obtain ⟨ti, i1, i2⟩ := hi
  obtain ⟨gt, g1, g2⟩ := dg_fam hg
  obtain ⟨tt, t1, t2⟩ := dtg_fam ht
  obtain ⟨te, e1, e2⟩ := deg_fam he
  have okb := blkOk_by ok
  exact ⟨_, pe_lc hc hN i1 okb g1 t1 e1 hs, fun i y py spos hy hl hsw => ps_setLc hc hN hy hl hsw i1 okb g1 t1 e1 hs, lc_ev hfg i2 g2 htv t2 e2⟩
theorem lc2 (own : List (Str × Nat)) (vs1 : List Nat) (hfg : f = true → g = true) (hc : X.calm = true) (hN : X.N.Nodup) (hi : DIg g f X tg iter wI) (hg : ∀ s H C cl fp, DG (bk X scope s H C cl fp) tg tv wG) (ht : ∀ s H C cl fp, DTg g (bk X scope s H C cl fp) ifs wT)
    (hi1 : ∀ s H C cl fp, DIg g false (bk X scope s H C cl fp) tg1 iter1 wI1) (hg1 : ∀ s H C cl fp, DG (bk X scope s H C cl fp) tg1 tv1 wG1) (ht1 : ∀ s H C cl fp, DTg g (bk X scope s H C cl fp) ifs1 wT1) (he : ∀ s H C cl fp, DEg g (bk X scope s H C cl fp) elt wE)
    (ok : blkC X.N X.env.scope scope own = true) (htv : ∀ i ∈ tv, i ∈ own.map (·.2) := by decide) (htv1 : ∀ i ∈ tv1, i ∈ vs1 := by decide) (hv1 : ∀ i ∈ vs1, i ∈ own.map (·.2) := by decide) (hs : ∀ x, foldedSetIterable iter X.env x = pure x := by intro _; rfl) (hs1 : ∀ env x, foldedSetIterable iter1 env x = pure x := by intro _ _; rfl) :
    DLc X (.ListComp elt [⟨tg, iter, ifs, 0⟩, ⟨tg1, iter1, ifs1, 0⟩] scope pos) (eLc2 (own.map (·.2)) vs1 wI wG wT wI1 wG1 wT1 wE) := by
  obtain ⟨ti, i1, i2⟩ := hi
  obtain ⟨gt, g1, g2⟩ := dg_fam hg
  obtain ⟨tt, t1, t2⟩ := dtg_fam ht
  obtain ⟨ti1, j1, j2⟩ := di_fam hi1
  obtain ⟨gt1, k1, k2⟩ := dg_fam hg1
  obtain ⟨tt1, l1, l2⟩ := dtg_fam ht1
  obtain ⟨te, e1, e2⟩ := deg_fam he
  have okb := blkOk_by ok
  exact ⟨_, pe_lc2 hc hN i1 okb hv1 g1 t1 j1 k1 l1 e1 hs hs1, fun i y py spos hy hl hsw => ps_setLc2 hc hN hy hl hsw i1 okb hv1 g1 t1 j1 k1 l1 e1 hs hs1, lc2_ev hfg i2 g2 htv t2 j2 k2 htv1 hv1 l2 e2⟩
theorem DLc.de {e : Expr} {w : WE} (h : DLc X e w) : DE X e w := let ⟨t, h1, _, h3⟩ := h.ex; ⟨t, h1, h3⟩
/-- x = e -/
def wAsg (i : Nat) (w : WE) : WS := fun R en => w en fun r en1 => wSet i r en1 R.nx
theorem asg_ev {Z : Px} {t : TE} {w : WE} {i : Nat} (h : EvE Z t w) : EvS Z (tAsg t (gName i)) (wAsg i w) := fun σ H D Fz ev F R S hw ft => h σ H _ Fz ev F _ S hw fun v H1 Fz1 ar ev1 r1 ef1 S1 => by
  obtain ⟨hl, r⟩ := wSet_of r1
  exact ft.nx _ H1 Fz1 _ r ef1 (S1.put hl)
theorem ds_lc {i : Nat} {y : Str} {py spos : Pos} {e : Expr} {w : WE} (h : DLc X e w) (hy : X.N[i]? = some y := by rfl) (hyl : X.env.scope.names.lookup y = some .local := by rfl) (hsw : swapsWith e (some (.Name y py)) spos.line X.env = pure true := by rfl) : DS X (.Assign [.Name y py] e spos) (wAsg i w) :=
  let ⟨t, _, h2, h3⟩ := h.ex
  ⟨_, h2 i y py spos hy hyl hsw, asg_ev h3⟩
theorem ds_asg {i : Nat} {y : Str} {py spos : Pos} {e : Expr} {w : WE} (hN : X.N.Nodup) (h : DE X e w) (hy : X.N[i]? = some y := by rfl) (hx : Loc X.env.scope y := by first | exact .inl rfl | exact .inr rfl) (hs : swapsWith e (some (.Name y py)) spos.line X.env = pure false := by rfl)
    (hf : X.fn y = true ∨ X.env.scope.names.lookup y = some .local := by first | exact .inl rfl | exact .inr rfl) : DS X (.Assign [.Name y py] e spos) (wAsg i w) :=
  let ⟨t, h1, h3⟩ := h.ex
  ⟨_, ps_set hN hy hx h1 hs hf, asg_ev h3⟩
end
end DL

set_option maxRecDepth 100000
namespace DL
open PySem PySem.Spec PyProof.Rows L2
open Evl (Ex Ex.refl Ex.trans Ex.new Ex.mut ex_l ex_t ex_rd fresh_back)

/-! ### places -/
theorem A.get_append : ∀ (p : List Nat) (t0 : A) {a dx : Addr} {k : Kd} {ts : List A} {n : Nat} {t : A}, t0.get? p = some (.nd a dx k ts) → ts[n]? = some t → t0.get? (p ++ [n]) = some t
  | [], t0, a, dx, k, ts, n, t, h, hn => by
    rw [A.get_nil] at h
    cases h
    show (match ts[n]? with | some c => c.get? [] | none => none) = some t
    rw [hn]
    exact A.get_nil t
  | i :: p, .dat x, _, _, _, _, _, _, h, _ => by cases h
  | i :: p, .scr x, _, _, _, _, _, _, h, _ => by cases h
  | i :: p, .nd a0 dx0 k0 ts0, a, dx, k, ts, n, t, h, hn => by
    have h' : (match ts0[i]? with | some c => c.get? p | none => none) = some (A.nd a dx k ts) := h
    show (match ts0[i]? with | some c => c.get? (p ++ [n]) | none => none) = some t
    cases hi : ts0[i]? with
    | none => rw [hi] at h'; cases h'
    | some c => rw [hi] at h'; exact A.get_append p c h' hn
def placeT (en : En) (j : Nat) (p : List Nat) : Option T := match en[j]? with
  | some s => match s.tr with
    | some t => t.get? p
    | none => none
  | none => none
def pVar (i : Nat) : WP := fun en Q => match en[i]? with
  | some (.own (.nd _ _)) => Q i []
  | some (.io (.nd _ _)) => Q i []
  | some (.lnk j p) => Q j p
  | _ => False
def pIx (w : WP) (w' : WU) : WP := fun en Q => w en fun j p => asO (placeT en j p) fun x => w' en fun y => fAt x y fun n t => match t with
  | .nd _ _ => Q j (p ++ [n])
  | _ => False
section
variable {Z : Px} {Fz H : Hp} {σ : L2.St} {ev : AEn} {F : Fr}
theorem placeT_of {ev : AEn} {j : Nat} {p : List Nat} {u : Sl A} {t : A} {a dx : Addr} {k : Kd} {ts : List A} (P : Place ev j p u t a dx k ts) : placeT (AEn.er ev) j p = some (.nd k (A.ers ts)) := by
  unfold placeT
  rw [AEn.er_get, P.sl]
  show (match (u.map A.er).tr with | some t => t.get? p | none => none) = _
  rw [Sl.map_tr, P.tr]
  show t.er.get? p = _
  rw [A.er_get, P.nd]
  rfl
theorem SA.own_at (S : SA Z Fz H σ ev F) {j : Nat} {p : List Nat} {u : Sl A} {t : A} {a dx : Addr} {k : Kd} {ts : List A} (P : Place ev j p u t a dx k ts) : Own Z Fz H (.nd a dx k ts) (.ref a) := by
  obtain ⟨v, h1, h2⟩ := S.sl j u t P.sl P.tr
  obtain ⟨sv, l, r, o, _⟩ := Own.at_ p t v _ h2 P.nd
  have e : sv = .ref a := o.1
  rw [← e]; exact o
end
section
variable {X : Cx} {a b e : Expr} {pos : Pos} {x : Str}
theorem dp_var {i : Nat} (hN : X.N[i]? = some x := by rfl) (hv : Vis X.env.scope x := by first | exact Or.inl rfl | exact Or.inr (Or.inl rfl) | exact Or.inr (Or.inr rfl)) (hd : (x == ("__debug__" : Str)) = false := by decide)
    (hcd : (x == ("__classdict__" : Str)) = false := by decide) : DP X (.Name x pos) (pVar i) := by
  refine ⟨tVar i, pe_var hN hv hd hcd, fun σ H Q Fz ev F R S hw k => ?_⟩
  unfold pVar at hw
  rw [AEn.er_get] at hw
  cases h1 : ev[i]? with
  | none => rw [h1] at hw; exact hw.elim
  | some u =>
    rw [h1] at hw
    cases u with
    | un => exact hw.elim
    | out b => exact hw.elim
    | own t =>
      cases t with
      | dat y => exact hw.elim
      | scr y => exact hw.elim
      | nd a dx kd ts =>
        obtain ⟨v, g1, g2⟩ := S.sl i _ _ h1 rfl
        obtain ⟨rfl, _⟩ := id g2
        exact ⟨_, g1, k H Fz i [] _ _ a dx kd ts hw (Ex.refl _) (Ex.refl _) S ⟨h1, rfl, A.get_nil _⟩⟩
    | io t =>
      cases t with
      | dat y => exact hw.elim
      | scr y => exact hw.elim
      | nd a dx kd ts =>
        obtain ⟨v, g1, g2⟩ := S.sl i _ _ h1 rfl
        obtain ⟨rfl, _⟩ := id g2
        exact ⟨_, g1, k H Fz i [] _ _ a dx kd ts hw (Ex.refl _) (Ex.refl _) S ⟨h1, rfl, A.get_nil _⟩⟩
    | lnk j p =>
      obtain ⟨u, t, a, dx, kd, ts, g1, g2, g3, g4⟩ := S.lk i j p h1
      exact ⟨_, g4, k H Fz j p u t a dx kd ts hw (Ex.refl _) (Ex.refl _) S ⟨g1, g2, g3⟩⟩
theorem dp_ix {w : WP} {w' : WU} (hu : X.A.units + 64 < cLine) (h : DP X a w) (h' : DU X b w') (hs : PlainIx b := by intro _ _; rfl) : DP X (.Subscript a b pos) (pIx w w') := by
  obtain ⟨t, h1, h2⟩ := h
  obtain ⟨t', h3, h4⟩ := h'
  refine ⟨_, pe_ix (ix_or ix_seq (ix_dic hu)) h1 h3 hs, fun σ H Q Fz ev F R S hw k => ?_⟩
  refine h2 σ H _ Fz ev F _ S hw fun H1 Fz1 j p u t0 a0 dx kd ts r1 ef1 eh1 S1 P => ?_
  obtain ⟨x0, e0, r1⟩ := asO_of r1
  rw [placeT_of P] at e0
  cases e0
  refine h4 σ H1 _ Fz1 ev F _ S1 r1 fun v H2 Fz2 br r2 ef2 eh2 S2 o2 => ?_
  refine at_of (a := .nd a0 dx kd ts) S2.ex (S2.own_at P) o2 r2 fun n t w r3 hn o3 => ?_
  cases t with
  | dat y => exact r3.elim
  | scr y => exact r3.elim
  | nd a1 dx1 kd1 ts1 =>
    obtain ⟨rfl, _⟩ := id o3
    exact k H2 Fz2 j (p ++ [n]) u t0 a1 dx1 kd1 ts1 r3 (ef1.trans ef2) (eh1.trans eh2) S2 ⟨P.sl, P.tr, A.get_append p t0 P.nd (hn _ _ _ _ rfl)⟩
/-- data looked at, as a value of its own -/
def nU (w : WU) : WU := fun en Q => w en fun t => asP t fun x => Q (.dat x)
theorem dn_u {w : WU} (h : DU X e w) : DN X e (nU w) := by
  obtain ⟨t, h1, h2⟩ := h
  refine ⟨t, h1, fun σ H Q Fz ev F R S hw k => h2 σ H Q Fz ev F _ S hw fun v H1 Fz1 ar r1 ef1 eh1 S1 o1 => ?_⟩
  obtain ⟨x, rfl, r⟩ := asP_of r1
  exact k v H1 Fz1 (.dat x) r ef1 eh1 (S1.pushD o1)
end

/-! ### changes at a place -/
def mutN (j : Nat) (p : List Nat) (k' : Kd) (ts' : List T) (en : En) : En := match en[j]? with
  | some s => match s.tr with
    | some t => killL j (p.length + 1) (en.set j (s.with (t.put p (.nd k' ts'))))
    | none => en
  | none => en
def mutApp (j : Nat) (p : List Nat) (r : T) (en : En) (Q : En → Prop) : Prop := match placeT en j p with
  | some (.nd .lst ts) => ts.length < sizeLine ∧ Q (mutN j p .lst (ts ++ [r]) en)
  | _ => False
def mutSet (j : Nat) (p : List Nat) (y r : T) (en : En) (Q : En → Prop) : Prop := match placeT en j p with
  | some (.nd .lst ts) => asI y fun k => ∃ m, ixN ts.length k = some m ∧ Q (mutN j p .lst (ts.set m r) en)
  | some (.nd (.dic d ks) ts) => ∃ c k, y = .dat c ∧ KeyOk d c k ∧ ks.length < sizeLine ∧ Q (mutN j p (.dic d (putKs ks k)) (putVs ks ts k r) en)
  | _ => False
section
variable {Z : Px} {Fz H H' : Hp} {σ : L2.St} {ev : AEn} {F : Fr}
theorem adss_set {ts : List A} {m : Nat} {r : A} (h : m < ts.length) : ∃ l, (A.adss (ts.set m r)).Perm l ∧ l.Sublist (A.adss ts ++ r.ads) := by
  obtain ⟨x, hx⟩ : ∃ x, ts[m]? = some x := ⟨ts[m], List.getElem?_eq_getElem h⟩
  obtain ⟨l1, l2, e, hl⟩ := split_at hx
  refine ⟨(A.adss l1 ++ A.adss l2) ++ r.ads, ?_, ?_⟩
  · rw [e, ← hl, set_split, A.adss_append, A.adss, List.append_assoc]
    exact List.Perm.append_left _ List.perm_append_comm
  · rw [e, A.adss_append, A.adss]
    refine List.Sublist.append (List.Sublist.append (List.Sublist.refl _) (List.sublist_append_right _ _)) (List.Sublist.refl _)
theorem adss_snoc {ts : List A} {r : A} : ∃ l, (A.adss (ts ++ [r])).Perm l ∧ l.Sublist (A.adss ts ++ r.ads) := ⟨_, List.Perm.refl _, by rw [A.adss_append]; simp [A.adss]⟩
theorem putVs_adss {ks : List NestedKey} {ts : List A} {k : NestedKey} {r : A} (h : ks.length = ts.length) : ∃ l, (A.adss (putVs ks ts k r)).Perm l ∧ l.Sublist (A.adss ts ++ r.ads) := by
  unfold putVs
  by_cases hk : k ∈ ks
  · rw [if_pos hk]
    refine adss_set ?_
    rw [← h]
    unfold posK
    exact List.findIdx_lt_length_of_exists ⟨k, hk, by simp⟩
  · rw [if_neg hk]
    exact adss_snoc
theorem ers_set (ts : List A) (m : Nat) (r : A) : A.ers (ts.set m r) = (A.ers ts).set m r.er := by rw [A.ers_eq, A.ers_eq, List.map_set]
theorem ers_snoc (ts : List A) (r : A) : A.ers (ts ++ [r]) = A.ers ts ++ [r.er] := by rw [A.ers_eq, A.ers_eq, List.map_append]; rfl
theorem ers_putVs (ks : List NestedKey) (ts : List A) (k : NestedKey) (r : A) : A.ers (putVs ks ts k r) = putVs ks (A.ers ts) k r.er := by
  unfold putVs
  by_cases hk : k ∈ ks
  · rw [if_pos hk, if_pos hk, ers_set]
  · rw [if_neg hk, if_neg hk, ers_snoc]
theorem mutN_er {j : Nat} {p : List Nat} {u : Sl A} {t : A} {a dx : Addr} {k k' : Kd} {ts ts' : List A} (P : Place ev j p u t a dx k ts) :
    AEn.er (killL j (p.length + 1) (ev.set j (u.with (t.put p (.nd a dx k' ts'))))) = mutN j p k' (A.ers ts') (AEn.er ev) := by
  unfold mutN
  rw [AEn.er_get, P.sl]
  show _ = (match (u.map A.er).tr with | some t => killL j (p.length + 1) ((AEn.er ev).set j ((u.map A.er).with (t.put p (.nd k' (A.ers ts'))))) | none => AEn.er ev)
  rw [Sl.map_tr, P.tr]
  show _ = killL j (p.length + 1) ((AEn.er ev).set j ((u.map A.er).with (t.er.put p (.nd k' (A.ers ts')))))
  rw [killL_er, er_set]
  have h : (u.with (t.put p (.nd a dx k' ts'))).map A.er = (u.map A.er).with (t.er.put p (.nd k' (A.ers ts'))) := by
    have : (t.put p (.nd a dx k' ts')).er = t.er.put p (.nd k' (A.ers ts')) := by rw [A.er_put]; rfl
    cases u <;> first | rfl | (show Sl.own _ = Sl.own _; rw [this]) | (show Sl.io _ = Sl.io _; rw [this])
  rw [h]
/-- a node gets what was just made -/
theorem SA.mutR {r : A} {v : V} (S : SA Z Fz H σ ev (F.add (.of Z r v))) {j : Nat} {p : List Nat} {u : Sl A} {t : A} {a dx : Addr} {k k' : Kd} {ts ts' : List A} {vs' : List V} (P : Place ev j p u t a dx k ts)
    (ex : Ex Fz H') (keep : ∀ b o, b ≠ a → H b = some o → H' b = some o) (nn : NodeAt Z Fz H' a dx vs' k') (os : Owns Z Fz H' ts' vs') (hl : ∃ l, (A.adss ts').Perm l ∧ l.Sublist (A.adss ts ++ r.ads)) (hne : ∀ b ∈ F.ads, b ≠ a) :
    SA Z Fz H' σ (killL j (p.length + 1) (ev.set j (u.with (t.put p (.nd a dx k' ts'))))) F := by
  obtain ⟨l, l1, l2⟩ := hl
  have hfr : F.ok Fz H' := F.mono (Ex.refl _) (fun b hb o => keep b o (hne b hb)) S.fr.1
  obtain ⟨v0, h1, h2⟩ := S.sl j u t P.sl P.tr
  obtain ⟨sv, L, R', hsv, hads, _⟩ := Own.at_ p t v0 _ h2 P.nd
  have hsub : ∃ A1 : List Addr, (AEn.ads ev ++ (F.add (.of Z r v)).ads).Perm (A1 ++ ((A.adss ts ++ r.ads) ++ F.ads)) := by
    obtain ⟨L2, R2, eA, _⟩ := ads_at P.sl
    have eu : u.ads = L ++ (a :: A.adss ts) ++ R' := by rw [Sl.ads_tr P.tr, hads]; rfl
    refine ⟨L2 ++ (L ++ (a :: (R' ++ R2))), ?_⟩
    rw [eA, eu]
    have q := shuffle L2 L a (A.adss ts) R' R2 (F.ads ++ r.ads)
    refine q.trans ?_
    refine List.Perm.append_left _ ?_
    rw [List.append_assoc]
    exact List.Perm.append_left _ List.perm_append_comm
  obtain ⟨A1, hp⟩ := hsub
  have hnd : ((A.adss ts ++ r.ads) ++ F.ads).Nodup := (List.nodup_append.mp (hp.nodup_iff.mp S.nd)).2.1
  refine S.mut P (Ex.refl _) ex keep nn os hfr ?_ ?_ S.fz (.inr (Nat.le_refl _)) rfl
  · refine ((List.Perm.append_right F.ads l1).nodup_iff).mpr ?_
    exact hnd.sublist (List.Sublist.append l2 (List.Sublist.refl _))
  · intro b hb
    have hb' := ((List.Perm.append_right F.ads l1).mem_iff).mp hb
    have := (List.Sublist.append l2 (List.Sublist.refl F.ads)).subset hb'
    show b ∈ A.adss ts ++ (F.ads ++ r.ads)
    simp only [List.mem_append] at this ⊢
    rcases this with (h | h) | h
    · exact .inl h
    · exact .inr (.inr h)
    · exact .inr (.inl h)
theorem SA.ne_at (S : SA Z Fz H σ ev F) {j : Nat} {p : List Nat} {u : Sl A} {t : A} {a dx : Addr} {k : Kd} {ts : List A} (P : Place ev j p u t a dx k ts) : a ∈ AEn.ads ev ∧ (∀ b ∈ F.ads, b ≠ a) ∧ Fz a = none ∧ ∀ b ∈ A.adss ts, b ≠ a := by
  obtain ⟨v0, h1, h2⟩ := S.sl j u t P.sl P.tr
  obtain ⟨sv, L, R', hsv, hads, _⟩ := Own.at_ p t v0 _ h2 P.nd
  have ha : a ∈ AEn.ads ev := ads_mem P.sl P.tr (by rw [hads]; exact List.mem_append_left _ (List.mem_append_right _ (List.mem_cons_self ..)))
  refine ⟨ha, fun b hb e => ?_, S.fz a (List.mem_append_left _ ha), fun b hb e => ?_⟩
  · exact (List.nodup_append.mp S.nd).2.2 a ha b hb e.symm
  · obtain ⟨L2, R2, eA, _⟩ := ads_at P.sl
    have hnd := (List.nodup_append.mp S.nd).1
    have eu : u.ads = L ++ (a :: A.adss ts) ++ R' := by rw [Sl.ads_tr P.tr, hads]; rfl
    rw [eA, eu] at hnd
    have h3 := (List.nodup_append.mp (List.nodup_append.mp hnd).1).2.1
    have h4 := (List.nodup_append.mp (List.nodup_append.mp h3).1).2.1
    exact (List.nodup_cons.mp h4).1 (by rw [← e]; exact hb)
/-- append, at a place -/
theorem app_of {r : A} {v : V} {j : Nat} {p : List Nat} {u : Sl A} {t : A} {a dx : Addr} {k : Kd} {ts : List A} {Q : En → Prop} (S : SA Z Fz H σ ev (F.add (.of Z r v))) (P : Place ev j p u t a dx k ts) (h : mutApp j p r.er (AEn.er ev) Q) :
    ∃ xs ev', H a = some (.lst xs) ∧ xs.length < sizeLine ∧ Q (AEn.er ev') ∧ SA Z Fz (upd H a (.lst (xs ++ [v]))) σ ev' F := by
  unfold mutApp at h
  rw [placeT_of P] at h
  cases k with
  | dic d ks => exact h.elim
  | ins C fs => exact h.elim
  | lst =>
    obtain ⟨hl, h⟩ := h
    obtain ⟨_, xs, n, os⟩ := S.own_at P
    have n' : H a = some (.lst xs) := n
    obtain ⟨ha, hne, hfz, hts⟩ := S.ne_at P
    have hneF : ∀ b ∈ F.ads, b ≠ a := fun b hb => hne b (List.mem_append_left _ hb)
    have hner : ∀ b ∈ r.ads, b ≠ a := fun b hb => hne b (List.mem_append_right _ hb)
    refine ⟨xs, _, n', by rw [← os.length, ← adss_len]; exact hl, ?_, S.mutR (k' := .lst) (ts' := ts ++ [r]) (vs' := xs ++ [v]) P (fun b o e => ?_) (fun b o hb e => by rw [upd_ne hb]; exact e) upd_same ?_ adss_snoc hneF⟩
    · rw [mutN_er P, ers_snoc]
      exact h
    · rw [upd_ne (fun z => by rw [z, hfz] at e; cases e)]
      exact S.ex b o e
    · exact Owns.join (Owns.mono (Ex.refl _) ts xs (fun b hb o e => by rw [upd_ne (hts b hb)]; exact e) os) ⟨v, [], rfl, Own.mono (Ex.refl _) r v (fun b hb o e => by rw [upd_ne (hner b hb)]; exact e) S.fr.2, rfl⟩
theorem owns_set : ∀ {ts : List A} {xs : List V} {r : A} {v : V}, Owns Z Fz H ts xs → ∀ m, Own Z Fz H r v → Owns Z Fz H (ts.set m r) (xs.set m v)
  | [], _, _, _, h, m, _ => by
    have h' : _ = ([] : List V) := h
    rw [h']; rfl
  | t :: ts, _, _, v, ⟨w, xr, e, o, os⟩, 0, hr => by rw [e]; exact ⟨v, xr, rfl, hr, os⟩
  | t :: ts, _, _, v, ⟨w, xr, e, o, os⟩, m + 1, hr => by rw [e]; exact ⟨w, xr.set m v, rfl, o, owns_set os m hr⟩
/-- o[y] = r, at a place -/
theorem set_of {r br : A} {v y : V} {j : Nat} {p : List Nat} {u : Sl A} {t : A} {a dx : Addr} {k : Kd} {ts : List A} {Q : En → Prop} {Q' : Hp → Prop} (S : SA Z Fz H σ ev (F.add (.of Z r v))) (P : Place ev j p u t a dx k ts) (ob : Own Z Fz H br y) (h : mutSet j p br.er r.er (AEn.er ev) Q)
    (kk : ∀ H' ev', Q (AEn.er ev') → SA Z Fz H' σ ev' F → Q' H') : rSetL (.ref a) y v H Q' ∨ rDicSet Z (.ref a) y v H Q' := by
  unfold mutSet at h
  rw [placeT_of P] at h
  obtain ⟨ha, hne, hfz, hts⟩ := S.ne_at P
  have hneF : ∀ b ∈ F.ads, b ≠ a := fun b hb => hne b (List.mem_append_left _ hb)
  have hner : ∀ b ∈ r.ads, b ≠ a := fun b hb => hne b (List.mem_append_right _ hb)
  have hex : ∀ o, Ex Fz (upd H a o) := fun o b q e => by
    rw [upd_ne (fun z => by rw [z, hfz] at e; cases e)]
    exact S.ex b q e
  have orr : ∀ o, Own Z Fz (upd H a o) r v := fun o => Own.mono (Ex.refl _) r v (fun b hb q e => by rw [upd_ne (hner b hb)]; exact e) S.fr.2
  cases k with
  | ins C fs => exact h.elim
  | lst =>
    obtain ⟨i, rfl, rfl, m, hm, h⟩ := asI_of h ob
    obtain ⟨_, xs, n, os⟩ := S.own_at P
    have n' : H a = some (.lst xs) := n
    have hlen : ts.length = xs.length := os.length
    rw [adss_len] at hm
    refine .inl ⟨a, xs, i, m, rfl, rfl, n', by rw [← hlen]; exact hm, ?_⟩
    have hmlt : m < ts.length := by
      unfold ixN at hm
      split at hm
      · split at hm
        · cases hm; omega
        · cases hm
      · split at hm
        · cases hm; omega
        · cases hm
    refine kk _ _ ?_ (S.mutR (k' := .lst) (ts' := ts.set m r) (vs' := xs.set m v) P (hex _) (fun b o hb e => by rw [upd_ne hb]; exact e) upd_same ?_ (adss_set hmlt) hneF)
    · rw [mutN_er P, ers_set]
      exact h
    · exact owns_set (Owns.mono (Ex.refl _) ts xs (fun b hb o e => by rw [upd_ne (hts b hb)]; exact e) os) m (orr _)
  | dic d ks =>
    obtain ⟨c, kk', ec, ko, hz, h⟩ := h
    have ec := er_dat ec
    subst ec
    obtain ⟨_, xs, n, os⟩ := S.own_at P
    have hlen : ts.length = xs.length := os.length
    have D : DicAt Z Fz H a d ks xs := n
    refine .inr ⟨Fz, a, d, ks, xs, c, kk', S.ex, rfl, D, ob, ko, hz, fun φ D' => ?_⟩
    have hkl : ks.length = ts.length := by rw [D.len, hlen]
    refine kk _ _ ?_ (S.mutR (k' := .dic d (putKs ks kk')) (ts' := putVs ks ts kk' r) (vs' := putVs ks xs kk' v) P (hex _) (fun b o hb e => by rw [upd_ne hb]; exact e) D' ?_ (putVs_adss hkl) hneF)
    · rw [mutN_er P, ers_putVs]
      exact h
    · have os' : Owns Z Fz (upd H a (.ext φ)) ts xs := Owns.mono (Ex.refl _) ts xs (fun b hb o e => by rw [upd_ne (hts b hb)]; exact e) os
      unfold putVs
      by_cases hk : kk' ∈ ks
      · rw [if_pos hk, if_pos hk]
        exact owns_set os' _ (orr _)
      · rw [if_neg hk, if_neg hk]
        exact os'.join ⟨v, [], rfl, orr _, rfl⟩
end
end DL

set_option maxRecDepth 100000
namespace DL
open PySem PySem.Spec PyProof.Rows L2
open Evl (Ex Ex.refl Ex.trans Ex.new Ex.mut ex_l ex_t ex_rd fresh_back)

/-! ### statements -/
def wSeq (w1 w2 : WS) : WS := fun R en => w1 { R with nx := fun e => frc e (w2 R) } en
def wNil : WS := fun R en => R.nx en
def wRet (w : WE) : WS := fun R en => w en R.rt
def wDrop (w : WE) : WS := fun R en => w en fun _ en1 => R.nx en1
def wIf (w : WT) (w1 w2 : WS) : WS := fun R en => w en fun b en1 => match b with
  | true => w1 R en1
  | false => w2 R en1
theorem Fits.sub {Z : Px} {Fz Fz' : Hp} {F : Fr} {R : EndsD} {D : Ends} {Rn : En → Prop} {Dn : L2.St → Hp → Prop} (ft : Fits Z Fz F R D) (e : Ex Fz Fz') (h : ∀ σ H F2 ev, Rn (AEn.er ev) → Ex Fz' F2 → SA Z F2 H σ ev F → Dn σ H) : Fits Z Fz' F { R with nx := Rn } { D with nx := Dn } :=
  ⟨h, fun σ v H F2 ar ev r e2 S => ft.rt σ v H F2 ar ev r (e.trans e2) S, fun σ H F2 ev r e2 S => ft.bk σ H F2 ev r (e.trans e2) S, fun σ H F2 ev r e2 S => ft.ct σ H F2 ev r (e.trans e2) S⟩
section
variable {X : Cx} {st : Stmt} {rest : List Stmt} {w w' : WS} {e a b : Expr} {pos : Pos} {x : Str}
theorem dss_nil : DSs X [] wNil := ⟨_, pss_nil, fun σ H D Fz ev F R S hw ft => ft.nx σ H Fz ev hw (Ex.refl _) S⟩
theorem dss_cons (h : DS X st w) (h' : DSs X rest w') : DSs X (st :: rest) (wSeq w w') := by
  obtain ⟨t, h1, h2⟩ := h
  obtain ⟨t', h3, h4⟩ := h'
  refine ⟨_, pss_cons h1 h3, fun σ H D Fz ev F R S hw ft => ?_⟩
  exact h2 σ H _ Fz ev F { R with nx := fun e => frc e (w' R) } S hw (ft.sub (Ex.refl _) fun σ1 H1 F2 ev1 r e2 S1 => h4 σ1 H1 D F2 ev1 F R S1 ((frc_eq _ _).mp r) (ft.mono e2))
theorem dss_one (h : DS X st w) : DSs X [st] w := let ⟨t, h1, h2⟩ := h.ex; ⟨t, pss_one h1, h2⟩
theorem ds_pass : DS X (.Pass pos) wNil := ⟨_, ps_pass, fun σ H D Fz ev F R S hw ft => ft.nx σ H Fz ev hw (Ex.refl _) S⟩
theorem ds_doc {j pos'} : DS X (.Expr (.Constant (.str x) j pos) pos') wNil := ⟨_, ps_doc, fun σ H D Fz ev F R S hw ft => ft.nx σ H Fz ev hw (Ex.refl _) S⟩
theorem ds_break : DS X (.Break pos) (fun R en => R.bk en) := ⟨_, ps_break, fun σ H D Fz ev F R S hw ft => ft.bk σ H Fz ev hw (Ex.refl _) S⟩
theorem ds_continue : DS X (.Continue pos) (fun R en => R.ct en) := ⟨_, ps_continue, fun σ H D Fz ev F R S hw ft => ft.ct σ H Fz ev hw (Ex.refl _) S⟩
theorem ds_ret {w : WE} (h : DE X e w) : DS X (.Return (some e) pos) (wRet w) := by
  obtain ⟨t, h1, h2⟩ := h
  exact ⟨_, ps_ret h1, fun σ H D Fz ev F R S hw ft => h2 σ H D.rt Fz ev F R.rt S hw fun v H' Fz' ar ev' r ef S' => ft.rt σ v H' Fz' ar ev' r ef S'⟩
theorem ds_retN : DS X (.Return none pos) (fun R en => R.rt (.dat .none) en) := ⟨_, ps_retN, fun σ H D Fz ev F R S hw ft => ft.rt σ .non H Fz (.dat .none) ev hw (Ex.refl _) (S.pushD .non)⟩
theorem ds_expr {w : WE} (h : DE X e w) (hs : swapsWith e none pos.line X.env = pure false := by rfl) : DS X (.Expr e pos) (wDrop w) := by
  obtain ⟨t, h1, h2⟩ := h
  exact ⟨_, ps_expr h1 hs, fun σ H D Fz ev F R S hw ft => h2 σ H _ Fz ev F _ S hw fun v H' Fz' ar ev' r ef S' => ft.nx σ H' Fz' ev' r ef S'.pop⟩
theorem ds_if {c : Expr} {s1 s2 : List Stmt} {wc : WT} {w1 w2 : WS} (h : DT X c wc) (h1 : DSs X s1 w1) (h2 : DSs X s2 w2) : DS X (.If c s1 s2 pos) (wIf wc w1 w2) := by
  obtain ⟨t, g1, g2⟩ := h
  obtain ⟨t1, g3, g4⟩ := h1
  obtain ⟨t2, g5, g6⟩ := h2
  refine ⟨_, ps_if g1 g3 g5, fun σ H D Fz ev F R S hw ft => ?_⟩
  refine g2 σ H _ Fz ev F _ S hw fun c H1 Fz1 ev1 r ef S1 => ?_
  cases c with
  | true => exact g4 σ H1 D Fz1 ev1 F R S1 r (ft.mono ef)
  | false => exact g6 σ H1 D Fz1 ev1 F R S1 r (ft.mono ef)
/-- what a slot holds changes no more (no step of the text) -/
def wFrz (j : Nat) (w : WS) : WS := fun R en => frzJ j en fun _ en1 => w R en1
theorem ds_frz (j : Nat) (h : DS X st w) : DS X st (wFrz j w) := by
  obtain ⟨t, h1, h2⟩ := h
  refine ⟨t, h1, fun σ H D Fz ev F R S hw ft => ?_⟩
  obtain ⟨Fz', ev', x, v, ef, S', r, _, _⟩ := frzJ_of S hw
  exact h2 σ H D Fz' ev' F R S' r (ft.mono ef)
/-- a slot is forgotten -/
def wKill (j : Nat) (w : WS) : WS := fun R en => w R (killL j 0 (en.set j .un))

/-! P.append(e) -/
def isLst (en : En) (j : Nat) (p : List Nat) (K : Prop) : Prop := match placeT en j p with
  | some (.nd .lst _) => K
  | _ => False
theorem isLst_of {Z : Px} {Fz H : Hp} {σ : L2.St} {ev : AEn} {F : Fr} (S : SA Z Fz H σ ev F) {j : Nat} {p : List Nat} {u : Sl A} {t : A} {a dx : Addr} {k : Kd} {ts : List A} (P : Place ev j p u t a dx k ts) {K : Prop} (h : isLst (AEn.er ev) j p K) : (∃ xs, SqL Z.K H a xs) ∧ K := by
  unfold isLst at h
  rw [placeT_of P] at h
  cases k with
  | dic d ks => exact h.elim
  | ins C fs => exact h.elim
  | lst =>
    obtain ⟨_, xs, n, os⟩ := S.own_at P
    exact ⟨⟨xs, .inl (.inl n)⟩, h⟩
def wApp (wP : WP) (wN : WU) : WS := fun R en => wP en fun j p => isLst en j p (wN en fun r => mutApp j p r en R.nx)
theorem ds_app {wP : WP} {wN : WU} {apos cpos : Pos} (h : DP X a wP) (h' : DN X e wN)
    (hbase : attributeBase a "append" X.env (eval a X.env) = eval a X.env := by rfl)
    (hfew : ((backTo cpos (starEach [e] X.env)).all (fun x => !x.1) && (backToKw cpos (keywordEach [] X.env)).all (fun x => x.1.isSome)
      && decide ([e].length + ([] : List Keyword).length + (if ([] : List Keyword).isEmpty then 0 else 1) < 30)) = true := by rfl)
    (hline : (apos.endLine == cpos.line) = true := by rfl) (hs1 : starEach [e] X.env = (false, eval e X.env) :: starEach [] X.env := by rfl) (hplain : (backTo cpos (starEach [] X.env)).any (·.1) = false := by rfl)
    (hs : swapsWith (.Call (.Attribute a "append" apos) [e] [] cpos) none pos.line X.env = pure false := by rfl) : DS X (.Expr (.Call (.Attribute a "append" apos) [e] [] cpos) pos) (wApp wP wN) := by
  obtain ⟨t, h1, h2⟩ := h
  obtain ⟨t', h3, h4⟩ := h'
  refine ⟨_, ps_expr (pe_bm PySem.F.plainAttrs_list PySem.F.slot_list_append PySem.F.type_list_append mt_append h1 (pa_cons h3 pa_nil hs1) hbase hfew hline hs1 hplain) hs, fun σ H D Fz ev F R S hw ft => ?_⟩
  refine h2 σ H _ Fz ev F _ S hw fun H1 Fz1 j p u t0 a0 dx kd ts r1 ef1 eh1 S1 P => ?_
  obtain ⟨hl, r1⟩ := isLst_of S1 P r1
  refine ⟨.inl ⟨rfl, hl⟩, ?_⟩
  refine h4 σ H1 _ Fz1 ev F _ S1 r1 fun v H2 Fz2 ar r2 ef2 eh2 S2 => ?_
  obtain ⟨xs, ev', g1, g2, g3, S3⟩ := app_of S2 P r2
  exact ⟨a0, xs, v, rfl, rfl, g1, g2, ft.nx σ _ Fz2 ev' g3 (ef1.trans ef2) S3⟩
/-- x.append(e), e of any sort -/
def wAppN (i : Nat) (w : WE) : WS := fun R en => isLst en i [] (w en fun r en1 => isLst en1 i [] (mutApp i [] r en1 R.nx))
theorem name_place {Z : Px} {Fz H : Hp} {σ : L2.St} {ev : AEn} {F : Fr} (S : SA Z Fz H σ ev F) {i : Nat} {K : Prop} (h : isLst (AEn.er ev) i [] K) : ∃ u a dx ts, Place ev i [] u (.nd a dx .lst ts) a dx .lst ts ∧ σ[i]? = some (some (.ref a)) ∧ (∃ xs, SqL Z.K H a xs) ∧ K := by
  have h0 := h
  unfold isLst placeT at h
  rw [AEn.er_get] at h
  cases hi : ev[i]? with
  | none => rw [hi] at h; exact h.elim
  | some u =>
    rw [hi] at h
    have h' : (match (match (u.map A.er).tr with | some t => t.get? [] | none => none) with | some (.nd .lst _) => K | _ => False) := h
    rw [Sl.map_tr] at h'
    cases hu : u.tr with
    | none => rw [hu] at h'; exact h'.elim
    | some t =>
      rw [hu] at h'
      have h2 : (match t.er.get? [] with | some (.nd .lst _) => K | _ => False) := h'
      rw [T.get_nil] at h2
      cases t with
      | dat x => exact h2.elim
      | scr x => exact h2.elim
      | nd a dx kd ts =>
        cases kd with
        | dic d ks => exact h2.elim
        | ins C fs => exact h2.elim
        | lst =>
          have P : Place ev i [] u (.nd a dx .lst ts) a dx .lst ts := ⟨hi, hu, A.get_nil _⟩
          obtain ⟨v, g1, g2⟩ := S.sl i u _ hi hu
          obtain ⟨rfl, xs, n, _⟩ := g2
          exact ⟨u, a, dx, ts, P, g1, ⟨xs, .inl (.inl n)⟩, h2⟩
theorem ds_appN {i : Nat} {w : WE} {apos cpos p2 : Pos} (h' : DE X e w) (hN : X.N[i]? = some x := by rfl) (hv : Vis X.env.scope x := by first | exact Or.inl rfl | exact Or.inr (Or.inl rfl) | exact Or.inr (Or.inr rfl)) (hd : (x == ("__debug__" : Str)) = false := by decide)
    (hcd : (x == ("__classdict__" : Str)) = false := by decide)
    (hbase : attributeBase (.Name x p2) "append" X.env (eval (.Name x p2) X.env) = eval (.Name x p2) X.env := by rfl)
    (hfew : ((backTo cpos (starEach [e] X.env)).all (fun x => !x.1) && (backToKw cpos (keywordEach [] X.env)).all (fun x => x.1.isSome)
      && decide ([e].length + ([] : List Keyword).length + (if ([] : List Keyword).isEmpty then 0 else 1) < 30)) = true := by rfl)
    (hline : (apos.endLine == cpos.line) = true := by rfl) (hs1 : starEach [e] X.env = (false, eval e X.env) :: starEach [] X.env := by rfl) (hplain : (backTo cpos (starEach [] X.env)).any (·.1) = false := by rfl)
    (hs : swapsWith (.Call (.Attribute (.Name x p2) "append" apos) [e] [] cpos) none pos.line X.env = pure false := by rfl) : DS X (.Expr (.Call (.Attribute (.Name x p2) "append" apos) [e] [] cpos) pos) (wAppN i w) := by
  obtain ⟨t', h3, h4⟩ := h'
  refine ⟨_, ps_expr (pe_bm PySem.F.plainAttrs_list PySem.F.slot_list_append PySem.F.type_list_append mt_append (pe_var hN hv hd hcd) (pa_cons h3 pa_nil hs1) hbase hfew hline hs1 hplain) hs, fun σ H D Fz ev F R S hw ft => ?_⟩
  obtain ⟨u, a, dx, ts, P, hσ, hl, hw⟩ := name_place S hw
  refine ⟨_, hσ, .inl ⟨rfl, hl⟩, ?_⟩
  refine h4 σ H _ Fz ev F _ S hw fun v H2 Fz2 ar ev2 r2 ef2 S2 => ?_
  obtain ⟨u2, a2, dx2, ts2, P2, hσ2, _, r2⟩ := name_place S2 r2
  have e : a2 = a := by
    rw [hσ] at hσ2
    cases hσ2; rfl
  subst e
  obtain ⟨xs, ev', g1, g2, g3, S3⟩ := app_of S2 P2 r2
  exact ⟨a2, xs, v, rfl, rfl, g1, g2, ft.nx σ _ Fz2 ev' g3 ef2 S3⟩
/-- P[y] = e -/
def wSub (w : WE) (wP : WP) (wy : WU) : WS := fun R en => w en fun r en1 => wP en1 fun j p => wy en1 fun y => mutSet j p y r en1 R.nx
theorem pset_or {t t' : TSet} (h : PSet X t) (h' : PSet X t') : PSet X (fun o i v H Q => t o i v H Q ∨ t' o i v H Q) := fun pins s σ H o i v ov iv u Q I ro ri rv q => q.elim (h pins s σ H o i v ov iv u Q I ro ri rv) (h' pins s σ H o i v ov iv u Q I ro ri rv)
theorem ds_sub {w : WE} {wP : WP} {wy : WU} {tpos : Pos} (hu : X.A.units + 64 < cLine) (h : DE X e w) (ho : DP X a wP) (hi : DU X b wy)
    (ha : ∀ v, assign (.Subscript a b tpos) X.env v = (do
      let ov ← holding [v] (eval a X.env)
      let iv ← holding [v, ov] (eval b X.env)
      standAt tpos
      holding [v, ov, iv] (setItem ov iv v)
      release [v, ov, iv] []) := by intro _; rfl)
    (hs : swapsWithSole [.Subscript a b tpos] e pos.line X.env = pure false := by rfl) (hw : swappedStores [.Subscript a b tpos] e X.env = pure none := by rfl)
    (h1 : (assignEach [.Subscript a b tpos] X.env).map (·.2) = [assign (.Subscript a b tpos) X.env] := by rfl) : DS X (.Assign [.Subscript a b tpos] e pos) (wSub w wP wy) := by
  obtain ⟨t, g1, g2⟩ := h
  obtain ⟨tp, g3, g4⟩ := ho
  obtain ⟨ti, g5, g6⟩ := hi
  refine ⟨_, ps_asg g1 (pg_sub g3 g5 (pset_or set_list (set_dic hu)) ha) hs hw h1, fun σ H D Fz ev F R S hw ft => ?_⟩
  refine g2 σ H _ Fz ev F _ S hw fun v H1 Fz1 ar ev1 r1 ef1 S1 => ?_
  refine g4 σ H1 _ Fz1 ev1 _ _ S1 r1 fun H2 Fz2 j p u t0 a0 dx kd ts r2 ef2 eh2 S2 P => ?_
  refine g6 σ H2 _ Fz2 ev1 _ _ S2 r2 fun y H3 Fz3 br r3 ef3 eh3 S3 o3 => ?_
  exact set_of S3 P o3 r3 fun H' ev' r4 S4 => ft.nx σ H' Fz3 ev' r4 ((ef1.trans ef2).trans ef3) S4

/-! ### for -/
def forGo (wG : WG) (wb : WS) : List PyData → WS
  | [], R, en => R.nx en
  | d :: ds, R, en => wG (.dat d) en fun en2 => wb { R with nx := forGo wG wb ds R, ct := forGo wG wb ds R, bk := R.nx } en2
def wFor (wI : WI) (wG : WG) (wb : WS) : WS := fun R en => wI en fun its en1 => forGo wG wb its R en1
theorem for_go {Z : Px} {g : TG} {tb : TS} {wG : WG} {wb : WS} {tv : List Nat} (hg : EvG Z tv g wG) (hb : EvS Z tb wb) {J : It} {its : List PyData} {Fz1 H1 : Hp} {σ1 : L2.St} {ev1 : AEn} {F : Fr} {P : Hp → Hp → Prop} {D : Ends} {R : EndsD} (iter : IterP Z J its P) (S1 : SA Z Fz1 H1 σ1 ev1 F)
    (hP : ∀ Fz H σ ev, Ex Fz1 Fz → SA Z Fz H σ ev F → P Fz H) (ft : Fits Z Fz1 F R D) (r1 : forGo wG wb its R (AEn.er ev1)) :
    ∃ W : Nat → Nat → L2.St → Hp → Prop, (∃ m, W 0 m σ1 H1) ∧ ∀ i m σ H, W i m σ H →
      (J.stop i H ∧ D.nx σ H) ∨ (J.go i H ∧ ∃ N : L2.St → Hp → Prop, (∀ σ' H', N σ' H' → ∃ m', m' < m ∧ W (i + 1) m' σ' H') ∧ ∀ x H', J.yld i H x H' → g x σ H' fun σ2 H2 => tb { D with nx := N, ct := N, bk := D.nx } σ2 H2) := by
  refine ⟨fun i m σ H => m = its.length - i ∧ ∃ (Fz : Hp) (ev : AEn), Ex Fz1 Fz ∧ SA Z Fz H σ ev F ∧ forGo wG wb (its.drop i) R (AEn.er ev), ⟨_, rfl, Fz1, ev1, Ex.refl _, S1, by rw [List.drop_zero]; exact r1⟩, ?_⟩
  rintro i m σ H ⟨rfl, Fz, ev, ef, S, r⟩
  by_cases hi : i < its.length
  · obtain ⟨hgo, hy⟩ := (iter Fz H σ ev F (hP Fz H σ ev ef S) S i).1 its[i] (List.getElem?_eq_getElem hi)
    rw [List.drop_eq_getElem_cons hi] at r
    refine .inr ⟨hgo, fun σ' H' => ∃ m', m' < its.length - i ∧ (m' = its.length - (i + 1) ∧ ∃ (Fz : Hp) (ev : AEn), Ex Fz1 Fz ∧ SA Z Fz H' σ' ev F ∧ forGo wG wb (its.drop (i + 1)) R (AEn.er ev)), fun σ' H' h => h, fun x H' hx => ?_⟩
    have hm : its.length - (i + 1) < its.length - i := by omega
    obtain ⟨Fz2, ef2, eh2, S2, dv⟩ := hy x H' hx
    refine hg σ H' _ Fz2 ev F (.dat its[i]) x _ (S2.pushD dv) r fun σ3 H3 Fz3 ev3 r3 ef3 eh3 _ _ S3 => ?_
    have efc : Ex Fz1 Fz3 := (ef.trans ef2).trans ef3
    have hN : ∀ σ' H' F2 ev', forGo wG wb (its.drop (i + 1)) R (AEn.er ev') → Ex Fz3 F2 → SA Z F2 H' σ' ev' F → ∃ m', m' < its.length - i ∧ (m' = its.length - (i + 1) ∧ ∃ (Fz : Hp) (ev : AEn), Ex Fz1 Fz ∧ SA Z Fz H' σ' ev F ∧ forGo wG wb (its.drop (i + 1)) R (AEn.er ev)) := fun σ' H' F2 ev' r e S => ⟨_, hm, rfl, F2, ev', efc.trans e, S, r⟩
    refine hb σ3 H3 _ Fz3 ev3 F _ S3 r3 ⟨hN, fun σ v H F2 ar ev r e S => ft.rt σ v H F2 ar ev r (efc.trans e) S, fun σ H F2 ev r e S => ft.nx σ H F2 ev r (efc.trans e) S, hN⟩
  · rw [List.drop_eq_nil_of_le (by omega)] at r
    exact .inl ⟨(iter Fz H σ ev F (hP Fz H σ ev ef S) S i).2 (by omega), ft.nx σ H Fz ev r ef S⟩
theorem ds_for {g : Bool} {tg iter : Expr} {body : List Stmt} {wI : WI} {wG : WG} {wb : WS} {tv : List Nat} (hp : PassesOwn (model X.prog X.w) X.A X.env X.xe) (hc : X.calm = true) (hi : DIg g false X tg iter wI) (hg : DG X tg tv wG) (hb : DSs X body wb) (hs : ∀ x, foldedSetIterable iter X.env x = pure x := by intro _; rfl) :
    DS X (.For tg iter body [] pos) (wFor wI wG wb) := by
  obtain ⟨ti, i1, i2⟩ := hi
  obtain ⟨gt, g1, g2⟩ := hg
  obtain ⟨tb, b1, b2⟩ := hb
  refine ⟨_, ps_for hp hc i1 g1 b1 hs, fun σ H D Fz ev F R S hw ft => ?_⟩
  refine i2 σ H _ Fz ev F _ S hw fun J H1 Fz1 its ev1 r1 ef1 eh1 S1 iter => ?_
  exact for_go g2 b2 iter S1 (fun F2 H2 σ2 ev2 e S2 => ⟨e, fun z => nomatch z⟩) (ft.mono ef1) r1
end
end DL

set_option maxRecDepth 100000
namespace DL
open PySem PySem.Spec PyProof.Rows L2
open Evl (Ex Ex.refl Ex.trans Ex.new Ex.mut ex_l ex_t ex_rd fresh_back)

/-! ### for x in y, y a name whose list or dict is kept aside meanwhile -/
def Fr.pinned (F : Fr) (j : Nat) (v : V) : Fr := { F with pin := fun i => if i = j then some v else F.pin i }
section
variable {Z : Px} {Fz H : Hp} {σ : L2.St} {ev : AEn} {F G : Fr} {j : Nat} {v : V}
theorem set_out_ads {b c : Bool} (h : ev[j]? = some (.out b)) : AEn.ads (ev.set j (.out c)) = AEn.ads ev := by
  obtain ⟨l, r, e1, e2⟩ := ads_at h
  rw [e1, e2]
  rfl
theorem SA.setOut (S : SA Z Fz H σ ev F) {b : Bool} (h : ev[j]? = some (.out b)) (c : Bool) (F' : Fr) (hok : F'.ok Fz H) (hads : F'.ads = F.ads) (hpin : ∀ i u, (ev.set j (.out c))[i]? = some u → u.isIo = true → ∃ v, F'.pin i = some v ∧ σ[i]? = some (some v)) : SA Z Fz H σ (ev.set j (.out c)) F' := by
  have hl : j < ev.length := (List.getElem?_eq_some_iff.mp h).1
  refine ⟨S.ex, fun i u t e1 e2 => ?_, fun i k p e => ?_, hok, ?_, ?_, by rw [List.length_set]; exact S.len, hpin⟩
  · by_cases e : j = i
    · subst e
      rw [List.getElem?_set_self hl] at e1
      cases e1; cases e2
    · rw [List.getElem?_set_ne e] at e1
      exact S.sl i u t e1 e2
  · by_cases e' : j = i
    · subst e'
      rw [List.getElem?_set_self hl] at e
      cases e
    · rw [List.getElem?_set_ne e'] at e
      obtain ⟨u, t, a, dx, kd, ts, g1, g2, g3, g4⟩ := S.lk i k p e
      refine ⟨u, t, a, dx, kd, ts, ?_, g2, g3, g4⟩
      by_cases e2 : j = k
      · subst e2
        rw [h] at g1
        cases g1; cases g2
      · rw [List.getElem?_set_ne e2]; exact g1
  · rw [set_out_ads h, hads]; exact S.nd
  · rw [set_out_ads h, hads]; exact S.fz
theorem SA.unpin (S : SA Z Fz H σ ev (F.pinned j v)) (h : ∀ u, ev[j]? = some u → u.isIo = true → F.pin j = some v) : SA Z Fz H σ ev F where
  ex := S.ex
  sl := S.sl
  lk := S.lk
  fr := S.fr
  nd := S.nd
  fz := S.fz
  len := S.len
  pn := fun i u e1 e2 => by
    obtain ⟨w, g1, g2⟩ := S.pn i u e1 e2
    have g1' : (if i = j then some v else F.pin i) = some w := g1
    by_cases e : i = j
    · rw [if_pos e] at g1'
      cases g1'
      subst e
      exact ⟨v, h u e1 e2, g2⟩
    · rw [if_neg e] at g1'
      exact ⟨w, g1', g2⟩
/-- lent to a loop -/
theorem SA.lend (S : SA Z Fz H σ ev F) {u : Sl A} {t : A} (h1 : ev[j]? = some u) (h2 : u.tr = some t) :
    ∃ v, σ[j]? = some (some v) ∧ Own Z Fz H t v ∧ (u.isIo = true → F.pin j = some v) ∧ ∀ G : Fr, G.ok Fz H → G.ads = t.ads → SA Z Fz H σ ((killL j 0 (ev.set j (.out u.isIo))).set j (.out true)) ((F.pinned j v).add G) := by
  obtain ⟨v, g1, S1⟩ := S.take h1 h2
  refine ⟨v, g1, S1.fr.2, fun z => ?_, fun G hG hads => ?_⟩
  · obtain ⟨w, q1, q2⟩ := S.pn j u h1 z
    rw [g1] at q2
    cases q2
    exact q1
  · have hl : j < ev.length := (List.getElem?_eq_some_iff.mp h1).1
    have hj : (killL j 0 (ev.set j (.out u.isIo)))[j]? = some (.out u.isIo) := by
      unfold killL
      rw [List.getElem?_map, List.getElem?_set_self hl]
      rfl
    refine S1.setOut hj true _ ⟨S1.fr.1, hG⟩ (by show F.ads ++ G.ads = F.ads ++ t.ads; rw [hads]) fun i w e1 e2 => ?_
    show ∃ v', (if i = j then some v else F.pin i) = some v' ∧ _
    by_cases e : i = j
    · rw [if_pos e, e]; exact ⟨v, rfl, g1⟩
    · rw [if_neg e]
      rw [List.getElem?_set_ne (Ne.symm e)] at e1
      exact S1.pn i w e1 e2
end
def giveQ (j : Nat) (io : Bool) (t : T) (K : En → Prop) (en : En) : Prop := match en[j]? with
  | some (.out true) => K (killL j 0 (en.set j (.back io t)))
  | some (.io _) => False
  | _ => K en
section
variable {Z : Px} {Fz H : Hp} {σ : L2.St} {ev : AEn} {F G : Fr} {j : Nat} {v : V} {t : A} {io : Bool} {K : En → Prop}
theorem back_of (S : SA Z Fz H σ ev ((F.pinned j v).add G)) (hG : G.ok Fz H → Own Z Fz H t v) (hads : G.ads = t.ads) (hio : io = true → F.pin j = some v) (h : giveQ j io t.er K (AEn.er ev)) : ∃ ev', SA Z Fz H σ ev' F ∧ K (AEn.er ev') := by
  have easy : (∀ u, ev[j]? = some u → u.isIo = false) → K (AEn.er ev) → ∃ ev', SA Z Fz H σ ev' F ∧ K (AEn.er ev') := fun hu k => ⟨ev, S.pop.unpin (fun u e1 e2 => by rw [hu u e1] at e2; cases e2), k⟩
  unfold giveQ at h
  rw [AEn.er_get] at h
  cases hj : ev[j]? with
  | none => rw [hj] at h; exact easy (fun u e => by rw [hj] at e; cases e) h
  | some u =>
    rw [hj] at h
    cases u with
    | un => exact easy (fun u e => by rw [hj] at e; cases e; rfl) h
    | own t' => exact easy (fun u e => by rw [hj] at e; cases e; rfl) h
    | lnk k p => exact easy (fun u e => by rw [hj] at e; cases e; rfl) h
    | io t' => exact h.elim
    | out b =>
      cases b with
      | false => exact easy (fun u e => by rw [hj] at e; cases e; rfl) h
      | true =>
        have hl : j < ev.length := (List.getElem?_eq_some_iff.mp hj).1
        obtain ⟨w, q1, q2⟩ := S.pn j _ hj rfl
        have q1' : (if j = j then some v else F.pin j) = some w := q1
        rw [if_pos rfl] at q1'
        cases q1'
        have S1 : SA Z Fz H σ (ev.set j (.out io)) ((F.pinned j v).add (.of Z t v)) := S.setOut hj io _ ⟨S.fr.1, hG S.fr.2⟩ (by show F.ads ++ t.ads = F.ads ++ G.ads; rw [hads]) fun i w e1 e2 => by
          by_cases e : i = j
          · subst e
            exact ⟨v, if_pos rfl, q2⟩
          · rw [List.getElem?_set_ne (Ne.symm e)] at e1
            exact S.pn i w e1 e2
        have S2 := S1.give (i := j) (b := io) (List.getElem?_set_self hl) q2
        rw [List.set_set] at S2
        refine ⟨_, S2.unpin fun u e1 e2 => ?_, ?_⟩
        · have : u = Sl.back io t := by
            unfold killL at e1
            rw [List.getElem?_map, List.getElem?_set_self hl] at e1
            rw [← Option.some.inj e1]
            cases io <;> rfl
          rw [this, Sl.back_io] at e2
          exact hio e2
        · rw [killL_er, er_set, Sl.back_map]
          exact h
end
def giveR (j : Nat) (io : Bool) (t : T) (R : EndsD) : EndsD := ⟨giveQ j io t R.nx, fun r => giveQ j io t (R.rt r), giveQ j io t R.bk, giveQ j io t R.ct⟩
def forN (j : Nat) (io : Bool) (t : T) (wG : WG) (wb : WS) : WS := fun R en => asO t.sqK fun its => forGo wG wb its (giveR j io t R) ((killL j 0 (en.set j (.out io))).set j (.out true))
def wForN (j : Nat) (wG : WG) (wb : WS) : WS := fun R en => match en[j]? with
  | some (.own (.nd k ts)) => forN j false (.nd k ts) wG wb R en
  | some (.io (.nd k ts)) => forN j true (.nd k ts) wG wb R en
  | some (.own (.dat x)) => asO (T.dat x).fzD fun its => forGo wG wb its R en
  | some (.io (.dat x)) => asO (T.dat x).fzD fun its => forGo wG wb its R en
  | _ => False
section
variable {X : Cx} {tg : Expr} {body : List Stmt} {wG : WG} {wb : WS} {tv : List Nat} {x : Str} {pos p2 : Pos}
theorem ds_forN {j : Nat} (hp : PassesOwn (model X.prog X.w) X.A X.env X.xe) (hc : X.calm = true) (hg : DG X tg tv wG) (hb : DSs X body wb) (hN : X.N[j]? = some x := by rfl) (hv : Vis X.env.scope x := by first | exact Or.inl rfl | exact Or.inr (Or.inl rfl) | exact Or.inr (Or.inr rfl)) (hd : (x == ("__debug__" : Str)) = false := by decide)
    (hcd : (x == ("__classdict__" : Str)) = false := by decide) (hs : ∀ v, foldedSetIterable (.Name x p2) X.env v = pure v := by intro _; rfl) : DS X (.For tg (.Name x p2) body [] pos) (wForN j wG wb) := by
  obtain ⟨gt, g1, g2⟩ := hg
  obtain ⟨tb, b1, b2⟩ := hb
  refine ⟨_, ps_for hp hc (pi_any (pe_var hN hv hd hcd)) g1 b1 hs, fun σ H D Fz ev F R S hw ft => ?_⟩
  show ∃ y, σ[j]? = some (some y) ∧ _
  -- data
  have dat : ∀ (u : Sl A) (c : PyData), ev[j]? = some u → u.tr = some (.dat c) → (asO (T.dat c).fzD fun its => forGo wG wb its R (AEn.er ev)) → tFor (iAny X.px (tVar j)) gt tb D σ H := fun u c h1 h2 h => by
    obtain ⟨its, e1, r⟩ := asO_of h
    obtain ⟨v, hσ, o⟩ := S.sl j u _ h1 h2
    obtain ⟨p, vs, rfl, hs, d⟩ := fzD_of (Z := X.px) (Fz := Fz) (H := H) (a := .dat c) e1 o
    refine ⟨_, hσ, p, rfl, ?_⟩
    rcases hs with hq | hq
    · exact .inl ⟨⟨vs, ex_l S.ex hq⟩, for_go g2 b2 (iter_l (Z := X.px)) S (fun F2 H2 σ2 ev2 e S2 => ⟨vs, ex_l (e.trans S2.ex) hq, dps_mono e _ _ d⟩) ft r⟩
    · exact .inr (.inl ⟨⟨vs, ex_t S.ex hq⟩, for_go g2 b2 (iter_t (Z := X.px)) S (fun F2 H2 σ2 ev2 e S2 => ⟨vs, ex_t (e.trans S2.ex) hq, dps_mono e _ _ d⟩) ft r⟩)
  have nod : ∀ (u : Sl A) (a dx : Addr) (k : Kd) (ts : List A), ev[j]? = some u → u.tr = some (.nd a dx k ts) → forN j u.isIo (.nd k (A.ers ts)) wG wb R (AEn.er ev) → tFor (iAny X.px (tVar j)) gt tb D σ H := fun u a dx k ts h1 h2 h => by
    obtain ⟨its, e1, r⟩ := asO_of h
    obtain ⟨v, hσ, o, hio, lend⟩ := S.lend h1 h2
    obtain ⟨rfl, vs, n, os⟩ := id o
    have e0 : AEn.er ((killL j 0 (ev.set j (.out u.isIo))).set j (.out true)) = (killL j 0 ((AEn.er ev).set j (.out u.isIo))).set j (.out true) := by rw [er_set, killL_er, er_set]; rfl
    have fits : ∀ G : Fr, (∀ F2 H2, G.ok F2 H2 → Own X.px F2 H2 (.nd a dx k ts) (.ref a)) → G.ads = (A.nd a dx k ts).ads → Fits X.px Fz ((F.pinned j (.ref a)).add G) (giveR j u.isIo (.nd k (A.ers ts)) R) D := fun G hG hads => by
      refine ⟨fun σ2 H2 F2 ev2 r e S2 => ?_, fun σ2 v H2 F2 ar ev2 r e S2 => ?_, fun σ2 H2 F2 ev2 r e S2 => ?_, fun σ2 H2 F2 ev2 r e S2 => ?_⟩
      · obtain ⟨ev', S3, r'⟩ := back_of S2 (hG _ _) hads hio r
        exact ft.nx σ2 H2 F2 ev' r' e S3
      · have S2' : SA X.px F2 H2 σ2 ev2 (((F.add (.of X.px ar v)).pinned j (.ref a)).add G) := S2.held_to ⟨⟨S2.fr.1.1, S2.fr.2⟩, S2.fr.1.2⟩ (by
          show (F.ads ++ ar.ads ++ G.ads).Perm (F.ads ++ G.ads ++ ar.ads)
          rw [List.append_assoc, List.append_assoc]
          exact List.Perm.append_left _ List.perm_append_comm) rfl
        obtain ⟨ev', S3, r'⟩ := back_of S2' (hG _ _) hads hio r
        exact ft.rt σ2 v H2 F2 ar ev' r' e S3
      · obtain ⟨ev', S3, r'⟩ := back_of S2 (hG _ _) hads hio r
        exact ft.bk σ2 H2 F2 ev' r' e S3
      · obtain ⟨ev', S3, r'⟩ := back_of S2 (hG _ _) hads hio r
        exact ft.ct σ2 H2 F2 ev' r' e S3
    rcases sqK_cases (a := .nd a dx k ts) e1 with e2 | ⟨p, dx', d, ks, ts', e3, e4⟩
    · -- a list
      obtain ⟨p, xs, ep, hs, d⟩ := sqD_of (a := .nd a dx k ts) e2 S.ex o
      cases k with
      | dic d ks => cases e2
      | ins C fs => cases e2
      | lst =>
        cases ep
        have hq : SqL X.K H a xs := by
          rcases hs with ⟨h, _⟩ | ⟨_, _, h⟩
          · exact h
          · cases h
        have Sl := lend (.of X.px (.nd a dx .lst ts) (.ref a)) o rfl
        refine ⟨_, hσ, a, rfl, .inl ⟨⟨xs, hq⟩, for_go g2 b2 (iter_l (Z := X.px)) Sl (fun F2 H2 σ2 ev2 e S2 => ?_) (fits _ (fun _ _ h => h) rfl) (by rw [e0]; exact r)⟩⟩
        obtain ⟨p2, xs2, ep2, hs2, d2⟩ := sqD_of (a := .nd a dx .lst ts) e2 S2.ex S2.fr.2
        cases ep2
        rcases hs2 with ⟨h, _⟩ | ⟨_, _, h⟩
        · exact ⟨xs2, h, d2⟩
        · cases h
    · cases e3
      subst e4
      cases (show DicAt X.px Fz H a d ks vs from n) with
      | flat es ep c1 c2 c3 =>
        let ys : List V := es.map fun p => p.2
        let G : Fr := ⟨fun _ => none, (A.nd a dx (.dic false (es.map fun p => nkOf p.1)) ts).ads, fun F2 H2 => H2 a = some (.ext (fPhi X.px a es ep)) ∧ Owns X.px F2 H2 ts ys,
          fun e k h => ⟨k a (List.mem_cons_self ..) _ h.1, Owns.mono e ts ys (fun b hb => k b (List.mem_cons_of_mem _ hb)) h.2⟩,
          fun h b hb => by
            rcases List.mem_cons.mp hb with rfl | hb
            · exact ⟨_, h.1⟩
            · exact Owns.has ts ys h.2 b hb⟩
        have Sl := lend G ⟨c1, os⟩ rfl
        refine ⟨_, hσ, a, rfl, .inr (.inr ⟨c3, .inr ⟨es, ep, c1, for_go g2 b2 (iter_f (Z := X.px)) Sl (fun F2 H2 σ2 ev2 e S2 => S2.fr.2.1) (fits G (fun F2 H2 h => ⟨rfl, _, .flat es ep h.1 c2 c3, h.2⟩) rfl) (by rw [e0]; rw [List.map_map] at r; exact r)⟩⟩)⟩
      | deep es ep c1 c4 c5 c6 c7 =>
        let ys : List V := es.map fun p => p.2.2
        let G : Fr := ⟨fun _ => none, (A.nd a dx (.dic true (es.map (·.1))) ts).ads, fun F2 H2 => (H2 a = some (.ext (dPhi X.px a es ep)) ∧ ∀ e ∈ es, Dv X.K F2 (.ref e.2.1) e.1.data) ∧ Owns X.px F2 H2 ts ys,
          fun e k h => ⟨⟨k a (List.mem_cons_self ..) _ h.1.1, fun q hq => dp_mono e _ _ (h.1.2 q hq)⟩, Owns.mono e ts ys (fun b hb => k b (List.mem_cons_of_mem _ hb)) h.2⟩,
          fun h b hb => by
            rcases List.mem_cons.mp hb with rfl | hb
            · exact ⟨_, h.1.1⟩
            · exact Owns.has ts ys h.2 b hb⟩
        have Sl := lend G ⟨⟨c1, fun q hq => (c7 q hq).1⟩, os⟩ rfl
        refine ⟨_, hσ, a, rfl, .inr (.inr ⟨c6, .inl ⟨es, ep, c1, for_go g2 b2 (iter_d (Z := X.px)) Sl (fun F2 H2 σ2 ev2 e S2 => S2.fr.2.1) (fits G (fun F2 H2 h => ⟨rfl, _, .deep es ep h.1.1 c4 c5 c6 fun q hq => ⟨h.1.2 q hq, (c7 q hq).2⟩, h.2⟩) rfl) (by rw [e0]; rw [List.map_map] at r; exact r)⟩⟩)⟩
  unfold wForN at hw
  rw [AEn.er_get] at hw
  cases h1 : ev[j]? with
  | none => rw [h1] at hw; exact hw.elim
  | some u =>
    rw [h1] at hw
    cases u with
    | un => exact hw.elim
    | out b => exact hw.elim
    | lnk k p => exact hw.elim
    | own t =>
      cases t with
      | dat c => exact dat _ c h1 rfl hw
      | scr ns => exact hw.elim
      | nd a dx k ts => exact nod _ a dx k ts h1 rfl hw
    | io t =>
      cases t with
      | dat c => exact dat _ c h1 rfl hw
      | scr ns => exact hw.elim
      | nd a dx k ts => exact nod _ a dx k ts h1 rfl hw
end

/-! ### where an index or a bound is a call -/
def eIx (w w' : WE) : WE := fun en Q => w en fun x en1 => w' en1 fun y en2 => fAt x y fun _ t => asP t fun c => Q (.dat c) en2
abbrev WOE := En → (Option Int → En → Prop) → Prop
def EvOE (Z : Px) (t : TO) (w : WOE) : Prop := ∀ (σ : L2.St) (H : Hp) (Q : Option Int → Hp → Prop) (Fz : Hp) (ev : AEn) (F : Fr) (R : Option Int → En → Prop), SA Z Fz H σ ev F → w (AEn.er ev) R →
  (∀ o H' Fz' ev', R o (AEn.er ev') → Ex Fz Fz' → SA Z Fz' H' σ ev' F → Q o H') → t σ H Q
structure DOE (X : Cx) (e : Option Expr) (w : WOE) : Prop where
  ex : ∃ t, PO X e t ∧ EvOE X.px t w
def oeNone : WOE := fun en Q => Q none en
def oeSome (w : WE) : WOE := fun en Q => w en fun y en1 => asI y fun i => Q (some i) en1
def eSl (w : WE) (wl wh : WOE) : WE := fun en Q => w en fun x en1 => wl en1 fun lo en2 => wh en2 fun hi en3 => fCut lo hi x fun y => Q y en3
section
variable {X : Cx} {a b : Expr} {pos p2 : Pos} {w w' : WE}
theorem de_ix (hu : X.A.units + 64 < cLine) (h : DE X a w) (h' : DE X b w') (hs : PlainIx b := by intro _ _; rfl) : DE X (.Subscript a b pos) (eIx w w') := by
  obtain ⟨t, h1, h2⟩ := h
  obtain ⟨t', h3, h4⟩ := h'
  refine ⟨_, pe_ix (ix_or ix_seq (ix_dic hu)) h1 h3 hs, fun σ H Q Fz ev F R S hw k => ?_⟩
  refine h2 σ H _ Fz ev F _ S hw fun v H1 Fz1 ar ev1 r1 ef1 S1 => ?_
  refine h4 σ H1 _ Fz1 ev1 _ _ S1 r1 fun u H2 Fz2 br ev2 r2 ef2 S2 => ?_
  refine at_of S2.ex S2.fr.1.2 S2.fr.2 r2 fun i t w r3 _ o3 => ?_
  obtain ⟨c, rfl, r⟩ := asP_of r3
  exact k w H2 Fz2 (.dat c) ev2 r (ef1.trans ef2) (S2.pop.pop.pushD o3)
theorem doe_none : DOE X none oeNone := ⟨_, po_none, fun σ H Q Fz ev F R S hw k => k none H Fz ev hw (Ex.refl _) S⟩
theorem doe_some (h : DE X a w) : DOE X (some a) (oeSome w) := by
  obtain ⟨t, h1, h2⟩ := h
  refine ⟨_, po_some h1, fun σ H Q Fz ev F R S hw k => ?_⟩
  refine h2 σ H _ Fz ev F _ S hw fun v H1 Fz1 ar ev1 r1 ef1 S1 => ?_
  obtain ⟨i, rfl, rfl, r⟩ := asI_of r1 S1.fr.2
  exact ⟨i, rfl, k (some i) H1 Fz1 ev1 r ef1 S1.pop⟩
theorem fcut_of {Z : Px} {Fz H : Hp} {σ : L2.St} {ev : AEn} {F : Fr} {ar : A} {v : V} {lo hi : Option Int} {R : T → Prop} {Q : VK} (S : SA Z Fz H σ ev F) (o : Own Z Fz H ar v) (r : fCut lo hi ar.er R)
    (k : ∀ w H' Fz' br, R br.er → Ex Fz Fz' → Ex H H' → SA Z Fz' H' σ ev (F.add (.of Z br w)) → Q w H') : rSlL Z.K v lo hi H Q ∨ rSlA Z.K v lo hi H Q := by
  unfold fCut at r
  split at r
  · rename_i xs e
    obtain ⟨p, vs, rfl, q, d⟩ := tpD_of (show ar.er.tpD = some xs by rw [e]; rfl) o
    refine .inr ⟨p, vs, rfl, ex_t S.ex q, fun hall => ?_, fun hno l hf => ?_⟩
    · have ec : cut xs lo hi = xs := by
        rw [d.length] at hall
        unfold cut
        rw [hall.1, hall.2]
        simp
      exact k _ H Fz (.dat (.tuple (cut xs lo hi))) r (Ex.refl _) (Ex.refl _) (S.pushD (by rw [ec]; exact .tup q d))
    · obtain ⟨g1, g2, g3⟩ := S.newT hf (cut_dvs d lo hi)
      exact k _ _ _ (.dat (.tuple (cut xs lo hi))) r g1 g2 g3
  · rename_i hne
    obtain ⟨xs, e, r⟩ := asO_of r
    obtain ⟨p, vs, rfl, hs, d⟩ := sqD_of e S.ex o
    rcases hs with ⟨h1, _⟩ | ⟨_, _, h⟩
    · refine .inl ⟨p, vs, rfl, h1, fun l hf => ?_⟩
      obtain ⟨g2, g3⟩ := S.newL hf (cut_dvs d lo hi)
      exact k _ _ _ _ (by rw [er_lstT]; exact r) (Ex.refl _) g2 g3
    · exact absurd h (hne _)
theorem de_sl {lo hi : Option Expr} {wl wh : WOE} (h : DE X a w) (hl : DOE X lo wl) (hh : DOE X hi wh) : DE X (.Subscript a (.Slice lo hi none p2) pos) (eSl w wl wh) := by
  obtain ⟨t, h1, h2⟩ := h
  obtain ⟨tl, h3, h4⟩ := hl
  obtain ⟨th, h5, h6⟩ := hh
  refine ⟨_, pe_slice (sl_or sl_list sl_tupA) h1 h3 h5, fun σ H Q Fz ev F R S hw k => ?_⟩
  refine h2 σ H _ Fz ev F _ S hw fun v H1 Fz1 ar ev1 r1 ef1 S1 => ?_
  refine h4 σ H1 _ Fz1 ev1 _ _ S1 r1 fun lo H2 Fz2 ev2 r2 ef2 S2 => ?_
  refine h6 σ H2 _ Fz2 ev2 _ _ S2 r2 fun hi H3 Fz3 ev3 r3 ef3 S3 => ?_
  exact fcut_of S3 S3.fr.2 r3 fun w H' Fz' br r ef eh S4 => k w H' Fz' br ev3 r (((ef1.trans ef2).trans ef3).trans ef) S4.drop
end

/-! ### an argument that is handed in as data -/
def cNameF (i : Nat) (wr : WC) : WC := fun en Q => frzJ i en fun x en1 => wr en1 fun rs en2 => Q (.dat x :: rs) en2
theorem dc_nameF {X : Cx} {back : List (Option Nat)} {es : List Expr} {i : Nat} {x : Str} {pos : Pos} {wr : WC} (hr : DC X back es wr) (hN : X.N[i]? = some x := by rfl) (hv : Vis X.env.scope x := by first | exact Or.inl rfl | exact Or.inr (Or.inl rfl) | exact Or.inr (Or.inr rfl))
    (hs : starEach (.Name x pos :: es) X.env = (false, eval (.Name x pos) X.env) :: starEach es X.env := by rfl) (hd : (x == ("__debug__" : Str)) = false := by decide) (hcd : (x == ("__classdict__" : Str)) = false := by decide) :
    DC X (none :: back) (.Name x pos :: es) (cNameF i wr) := by
  obtain ⟨tr, h3, h4⟩ := hr
  refine ⟨tCons (tVar i) tr, pa_cons (pe_var hN hv hd hcd) h3 hs, fun σ H Q Fz ev F R S hw k => ?_⟩
  obtain ⟨Fz1, ev1, c, v, ef1, S1, r1, hσ, dv⟩ := frzJ_of S hw
  refine ⟨v, hσ, ?_⟩
  refine h4 σ H _ Fz1 ev1 _ _ (S1.pushD dv) r1 fun vs H2 Fz2 as ev2 r2 e2 S2 hb => ?_
  exact k (v :: vs) H2 Fz2 (.dat c :: as) ev2 r2 (ef1.trans e2) (S2.held_to ⟨S2.fr.1.1, ⟨v, vs, rfl, S2.fr.1.2, S2.fr.2⟩⟩ (by
    show (F.ads ++ ([] ++ A.adss as)).Perm (F.ads ++ [] ++ A.adss as)
    simp) rfl) hb
end DL

set_option maxRecDepth 100000
namespace DL
open PySem PySem.Spec PyProof.Rows L2
open Evl (Ex Ex.refl Ex.trans Ex.new Ex.mut ex_l ex_t ex_rd fresh_back)

/-! ### tuple(range(..)) -/
def nTupRg (w : WU) : WU := fun en Q => w en fun x => asI x fun n => RgOk 0 n ∧ Q (.dat (.tuple (rngD 0 n.toNat)))
theorem rgV_dvs {K : PySem.W.Frag} {Fz : Hp} (a : Int) : ∀ l : List Nat, Dvs K Fz (l.map fun i => V.int (a + (i : Nat))) (l.map fun i => PyData.int (a + (i : Nat)))
  | [] => .nil
  | i :: l => .cons (.int _) (rgV_dvs a l)
theorem dn_tupRg {X : Cx} {a : Expr} {p pos p2 pos2 : Pos} {w : WU} (hc : X.calm = true) (hg : Gl X "tuple") (hm : X.mg "tuple" = none) (hg2 : Gl X "range") (hm2 : X.mg "range" = none) (h : DU X a w)
    (na : starEach [.Call (.Name "range" p2) [a] [] pos2] X.env = (false, eval (.Call (.Name "range" p2) [a] [] pos2) X.env) :: starEach [] X.env := by rfl) (nb : starEach [a] X.env = (false, eval a X.env) :: starEach [] X.env := by rfl) :
    DN X (.Call (.Name "tuple" p) [.Call (.Name "range" p2) [a] [] pos2] [] pos) (nTupRg w) := by
  obtain ⟨t, h1, h2⟩ := h
  refine ⟨_, pe_tupRg hc hg hm (prg_1 hg2 hm2 h1 nb) na, fun σ H Q Fz ev F R S hw k => ?_⟩
  refine h2 σ H _ Fz ev F _ S hw fun v H1 Fz1 ar r1 ef1 eh1 S1 o1 => ?_
  obtain ⟨n, rfl, rfl, r⟩ := asI_of r1 o1
  refine ⟨n, rfl, r.1, fun q hf => ?_⟩
  obtain ⟨g1, g2, g3⟩ := S1.newT hf (vs := rgV 0 n) (xs := rngD 0 n.toNat) (by unfold rgV rngD; rw [Int.sub_zero]; exact rgV_dvs 0 _)
  exact k _ _ _ (.dat (.tuple (rngD 0 n.toNat))) r.2 (ef1.trans g1) (eh1.trans g2) g3

/-! ### slices with a step, of lists -/
def pick {α : Type} (xs : List α) (lo hi st : Option Int) : List α := (sliceRange (sliceBounds lo hi st xs.length).1 (sliceBounds lo hi st xs.length).2.1 (sliceBounds lo hi st xs.length).2.2).filterMap (xs[·]?)
theorem pick_slice (xs : Array Value) (lo hi st : Option Int) : slicePick xs lo hi st = (pick xs.toList lo hi st).toArray := by
  unfold slicePick pick
  rw [Array.length_toList]
  congr 2
  funext x
  simp
theorem vals_pick {xs : List V} {us : List Value} (r : Vals xs us) (lo hi st : Option Int) : Vals (pick xs lo hi st) (pick us lo hi st) := by
  unfold pick
  rw [r.length]
  generalize sliceRange _ _ _ = is
  induction is with
  | nil => exact .nil
  | cons i is ih =>
    rw [List.filterMap_cons, List.filterMap_cons]
    cases hx : xs[i]? with
    | none =>
      rw [show us[i]? = none from List.getElem?_eq_none (by rw [← r.length]; exact List.getElem?_eq_none_iff.mp hx)]
      exact ih
    | some x =>
      obtain ⟨u, hu, ru⟩ := r.get hx
      rw [hu]
      exact .cons ru ih
theorem pick_len {α : Type} (xs : List α) (lo hi st : Option Int) (ys : List Value) (h : ys.length = xs.length) : (pick xs lo hi st).length ≤ xs.length := by
  have h1 : (pick xs lo hi st).length = (pick ys lo hi st).length := by
    unfold pick
    rw [h]
    generalize sliceRange _ _ _ = is
    induction is with
    | nil => rfl
    | cons i is ih =>
      rw [List.filterMap_cons, List.filterMap_cons]
      cases hx : xs[i]? with
      | none =>
        rw [show ys[i]? = none from List.getElem?_eq_none (by rw [h]; exact List.getElem?_eq_none_iff.mp hx)]
        exact ih
      | some x =>
        have hl : i < ys.length := by rw [h]; exact (List.getElem?_eq_some_iff.mp hx).1
        rw [List.getElem?_eq_getElem hl]
        simp [ih]
  have h2 := slicePick_size_le ys.toArray lo hi st
  rw [pick_slice] at h2
  simp only [List.size_toArray] at h2
  rw [h1, ← h]
  exact h2
def tSl3 (K : PySem.W.Frag) (te : TE) (tl th ts : TO) : TE := fun σ H Q => te σ H fun x H1 => tl σ H1 fun l H2 => th σ H2 fun u H3 => ts σ H3 fun st H4 => ∃ a xs, x = .ref a ∧ SqL K H4 a xs ∧ st ≠ some 0 ∧ ∀ p, H4 p = none → Q (.ref p) (upd H4 p (.lst (pick xs l u st)))
theorem pe_sl3 {X : Cx} {e : Expr} {lo hi : Option Expr} {st : Expr} {te : TE} {tl th ts : TO} {p2 pos : Pos} (he : PE X e te) (hl : PO X lo tl) (hu : PO X hi th) (hs : PO X (some st) ts) : PE X (.Subscript e (.Slice lo hi (some st) p2) pos) (tSl3 X.K te tl th ts) := by
  refine ⟨fun pins s σ H Q I h => ?_⟩
  refine Subscript_ (thn (he.run pins s σ H _ I h) fun v s1 ⟨x, H1, I1, r1, q1⟩ => ?_)
  refine wpAny_Slice (thn (hl.run pins s1 σ H1 _ I1 q1) fun vl s2 ⟨l, H2, I2, pl, q2⟩ => thn (hu.run pins s2 σ H2 _ I2 q2) fun vu s3 ⟨u, H3, I3, pu, q3⟩ => thn (hs.run pins s3 σ H3 _ I3 q3) fun vs s4 ⟨o, H4, I4, ps, q4⟩ => ?_)
  obtain ⟨a, xs, ex, hx, h0, q⟩ := q4
  subst ex
  cases r1
  have I5 : Inv X pins σ H4 { s4 with heap := s4.heap.push { cls := .type "slice", data := .fields #[vl, vu, vs] } } := I4.kept (t' := s4.toks) fun b ob q => Heap.get?_push_of_some _ q
  obtain ⟨its, r, ht, hz⟩ := I5.list hx
  have hlen := r.length
  show wpAny (model X.prog X.w) X.A (subscriptTail e (.Slice lo hi (some st) p2) (.ref a) (.ref s4.heap.objs.size)) (EP X pins σ Q) X.xe { s4 with heap := s4.heap.push { cls := .type "slice", data := .fields #[vl, vu, vs] } }
  refine tail_any (ops := [.ref a, .ref s4.heap.objs.size]) ht.isList.typeIs (PySem.slot_list_getitem.lookup) ?_ (by with_unfolding_all rfl)
  refine wpAny_getItem_list_slice ht.isList (Heap.IsSliceOf.new _ vl vu vs) pl pu ps h0 ?_ (by rw [List.size_toArray]; omega)
  rw [pick_slice]
  refine ⟨.ref _, _, I5.laid (t' := s4.toks) (o := .lst (pick xs l u o)) (fun b ob q => Heap.get?_push_of_some _ q) (Nat.le_refl _) ?_, rfl, q _ (I5.hok.fresh (Nat.le_refl _))⟩
  exact ⟨Nat.le_trans (pick_len xs l u o its hlen.symm) hz, _, 0, vals_pick r l u o, Heap.get?_push_size _ rfl⟩
def nSl3 (w : WU) (wl wh ws : WO) : WU := fun en Q => w en fun x => wl en fun lo => wh en fun hi => ws en fun st => st ≠ some 0 ∧ asO x.lsD fun xs => Q (lstT (pick xs lo hi st))
theorem pick_dvs {K : PySem.W.Frag} {Fz : Hp} {vs : List V} {xs : List PyData} (h : Dvs K Fz vs xs) (lo hi st : Option Int) : Dvs K Fz (pick vs lo hi st) (pick xs lo hi st) := by
  unfold pick
  rw [h.length]
  exact h.picks _
theorem dn_sl3 {X : Cx} {a st : Expr} {lo hi : Option Expr} {p2 pos : Pos} {w : WU} {wl wh ws : WO} (h : DU X a w) (hl : DO X lo wl) (hh : DO X hi wh) (hs : DO X (some st) ws) : DN X (.Subscript a (.Slice lo hi (some st) p2) pos) (nSl3 w wl wh ws) := by
  obtain ⟨t, h1, h2⟩ := h
  obtain ⟨tl, h3, h4⟩ := hl
  obtain ⟨th, h5, h6⟩ := hh
  obtain ⟨ts, h7, h8⟩ := hs
  refine ⟨_, pe_sl3 h1 h3 h5 h7, fun σ H Q Fz ev F R S hw k => ?_⟩
  refine h2 σ H _ Fz ev F _ S hw fun v H1 Fz1 ar r1 ef1 eh1 S1 o1 => ?_
  refine h4 σ H1 _ Fz1 ev F _ S1 r1 fun lo H2 Fz2 r2 ef2 eh2 S2 => ?_
  refine h6 σ H2 _ Fz2 ev F _ S2 r2 fun hi H3 Fz3 r3 ef3 eh3 S3 => ?_
  refine h8 σ H3 _ Fz3 ev F _ S3 r3 fun st H4 Fz4 r4 ef4 eh4 S4 => ?_
  have o4 := ((o1.ext ef2 eh2).ext ef3 eh3).ext ef4 eh4
  have ef := ((ef1.trans ef2).trans ef3).trans ef4
  have eh := ((eh1.trans eh2).trans eh3).trans eh4
  obtain ⟨xs, e, r⟩ := asO_of r4.2
  obtain ⟨p, vs, rfl, q, d⟩ := lsD_of e S4.ex o4
  refine ⟨p, vs, rfl, .inl (.inl q), r4.1, fun l hf => ?_⟩
  obtain ⟨g2, g3⟩ := S4.newL hf (pick_dvs d lo hi st)
  exact k _ _ _ _ (by rw [er_lstT]; exact r) ef (eh.trans g2) g3

/-! ### x[i] = e, where i is a call -/
def nodeAt (en : En) (j : Nat) (K : Prop) : Prop := match placeT en j [] with
  | some (.nd _ _) => K
  | _ => False
theorem nodeAt_of {Z : Px} {Fz H : Hp} {σ : L2.St} {ev : AEn} {F : Fr} (S : SA Z Fz H σ ev F) {i : Nat} {K : Prop} (h : nodeAt (AEn.er ev) i K) : ∃ u a dx k ts, Place ev i [] u (.nd a dx k ts) a dx k ts ∧ σ[i]? = some (some (.ref a)) ∧ K := by
  unfold nodeAt placeT at h
  rw [AEn.er_get] at h
  cases hi : ev[i]? with
  | none => rw [hi] at h; exact h.elim
  | some u =>
    rw [hi] at h
    have h' : (match (match (u.map A.er).tr with | some t => t.get? [] | none => none) with | some (.nd _ _) => K | _ => False) := h
    rw [Sl.map_tr] at h'
    cases hu : u.tr with
    | none => rw [hu] at h'; exact h'.elim
    | some t =>
      rw [hu] at h'
      have h2 : (match t.er.get? [] with | some (.nd _ _) => K | _ => False) := h'
      rw [T.get_nil] at h2
      cases t with
      | dat x => exact h2.elim
      | scr x => exact h2.elim
      | nd a dx kd ts =>
        obtain ⟨v, g1, g2⟩ := S.sl i u _ hi hu
        obtain ⟨rfl, _⟩ := g2
        exact ⟨u, a, dx, kd, ts, ⟨hi, hu, A.get_nil _⟩, g1, h2⟩
def wSubN (w : WE) (j : Nat) (wy : WE) : WS := fun R en => w en fun r en1 => nodeAt en1 j (wy en1 fun y en2 => nodeAt en2 j (mutSet j [] y r en2 R.nx))
theorem ds_subN {X : Cx} {j : Nat} {b e : Expr} {x : Str} {w wy : WE} {tpos pos p2 : Pos} (hu : X.A.units + 64 < cLine) (h : DE X e w) (hi : DE X b wy) (hN : X.N[j]? = some x := by rfl) (hv : Vis X.env.scope x := by first | exact Or.inl rfl | exact Or.inr (Or.inl rfl) | exact Or.inr (Or.inr rfl)) (hd : (x == ("__debug__" : Str)) = false := by decide)
    (hcd : (x == ("__classdict__" : Str)) = false := by decide)
    (ha : ∀ v, assign (.Subscript (.Name x p2) b tpos) X.env v = (do
      let ov ← holding [v] (eval (.Name x p2) X.env)
      let iv ← holding [v, ov] (eval b X.env)
      standAt tpos
      holding [v, ov, iv] (setItem ov iv v)
      release [v, ov, iv] []) := by intro _; rfl)
    (hs : swapsWithSole [.Subscript (.Name x p2) b tpos] e pos.line X.env = pure false := by rfl) (hw : swappedStores [.Subscript (.Name x p2) b tpos] e X.env = pure none := by rfl)
    (h1 : (assignEach [.Subscript (.Name x p2) b tpos] X.env).map (·.2) = [assign (.Subscript (.Name x p2) b tpos) X.env] := by rfl) : DS X (.Assign [.Subscript (.Name x p2) b tpos] e pos) (wSubN w j wy) := by
  obtain ⟨t, g1, g2⟩ := h
  obtain ⟨ti, g5, g6⟩ := hi
  refine ⟨_, ps_asg g1 (pg_sub (pe_var hN hv hd hcd) g5 (pset_or set_list (set_dic hu)) ha) hs hw h1, fun σ H D Fz ev F R S hw ft => ?_⟩
  refine g2 σ H _ Fz ev F _ S hw fun v H1 Fz1 ar ev1 r1 ef1 S1 => ?_
  obtain ⟨u1, a1, dx1, k1, ts1, P1, hσ1, r1⟩ := nodeAt_of S1 r1
  refine ⟨_, hσ1, ?_⟩
  refine g6 σ H1 _ Fz1 ev1 _ _ S1 r1 fun y H2 Fz2 br ev2 r2 ef2 S2 => ?_
  obtain ⟨u2, a2, dx2, k2, ts2, P2, hσ2, r2⟩ := nodeAt_of S2 r2
  have e : a2 = a1 := by
    rw [hσ1] at hσ2
    cases hσ2; rfl
  subst e
  exact set_of S2.pop P2 S2.fr.2 r2 fun H' ev' r4 S4 => ft.nx σ H' Fz2 ev' r4 (ef1.trans ef2) S4
end DL

set_option maxRecDepth 100000
namespace DL
open PySem PySem.Spec PyProof.Rows L2
open Evl (Ex Ex.refl Ex.trans Ex.new Ex.mut ex_l ex_t ex_rd fresh_back)

/-! ### a name handed in ahead of arguments whose making changes what it names -/
def lend (i : Nat) (rs : List T) (en : En) (Q : List T → En → Prop) : Prop := match en[i]? with
  | some (.own (.nd k ts)) => frc (killL i 0 (en.set i (.out false))) (Q (.nd k ts :: rs))
  | some (.io (.nd k ts)) => frc (killL i 0 (en.set i (.out true))) (Q (.nd k ts :: rs))
  | _ => False
def cNameL (i : Nat) (wr : WC) : WC := fun en Q => match en[i]? with
  | some s => match s.tr with
    | some _ => wr en fun rs en2 => lend i rs en2 Q
    | none => False
  | none => False
theorem dc_nameL {X : Cx} {back : List (Option Nat)} {es : List Expr} {i : Nat} {x : Str} {pos : Pos} {wr : WC} (hr : DC X back es wr) (hN : X.N[i]? = some x := by rfl) (hv : Vis X.env.scope x := by first | exact Or.inl rfl | exact Or.inr (Or.inl rfl) | exact Or.inr (Or.inr rfl))
    (hs : starEach (.Name x pos :: es) X.env = (false, eval (.Name x pos) X.env) :: starEach es X.env := by rfl) (hd : (x == ("__debug__" : Str)) = false := by decide) (hcd : (x == ("__classdict__" : Str)) = false := by decide) :
    DC X (some i :: back) (.Name x pos :: es) (cNameL i wr) := by
  obtain ⟨tr, h3, h4⟩ := hr
  refine ⟨tCons (tVar i) tr, pa_cons (pe_var hN hv hd hcd) h3 hs, fun σ H Q Fz ev F R S hw k => ?_⟩
  unfold cNameL at hw
  rw [AEn.er_get] at hw
  cases h1 : ev[i]? with
  | none => rw [h1] at hw; exact hw.elim
  | some u =>
    rw [h1] at hw
    have hw2 : (match (u.map A.er).tr with
      | some _ => wr (AEn.er ev) fun rs en2 => lend i rs en2 R
      | none => False) := hw
    rw [Sl.map_tr] at hw2
    cases h2 : u.tr with
    | none => rw [h2] at hw2; exact hw2.elim
    | some t =>
      rw [h2] at hw2
      obtain ⟨v, hσ, _⟩ := S.sl i u t h1 h2
      refine ⟨v, hσ, ?_⟩
      refine h4 σ H _ Fz ev _ _ S hw2 fun vs H2 Fz2 as ev2 r2 e2 S2 hb => ?_
      have fin : ∀ (u : Sl A) (t : A), ev2[i]? = some u → u.tr = some t → R (t.er :: A.ers as) (killL i 0 ((AEn.er ev2).set i (.out u.isIo))) → Q (v :: vs) H2 := fun u t g1 g2 hR => by
        obtain ⟨v', q1, S3⟩ := S2.take g1 g2
        rw [hσ] at q1
        cases q1
        refine k (v :: vs) H2 Fz2 (t :: as) _ (by rw [killL_er, er_set]; exact hR) e2 (S3.held_to ⟨S3.fr.1.1, ⟨v, vs, rfl, S3.fr.2, S3.fr.1.2⟩⟩ (by
          show (F.ads ++ (t.ads ++ A.adss as)).Perm (F.ads ++ A.adss as ++ t.ads)
          rw [List.append_assoc]
          exact List.Perm.append_left _ List.perm_append_comm) rfl) ⟨hσ, hb⟩
      have r3 : lend i (A.ers as) (AEn.er ev2) R := r2
      unfold lend at r3
      rw [AEn.er_get] at r3
      cases g1 : ev2[i]? with
      | none => rw [g1] at r3; exact r3.elim
      | some u2 =>
        rw [g1] at r3
        cases u2 with
        | un => exact r3.elim
        | lnk j p => exact r3.elim
        | out b => exact r3.elim
        | own t2 =>
          cases t2 with
          | dat y => exact r3.elim
          | scr y => exact r3.elim
          | nd a dx kd ts => exact fin _ _ g1 rfl ((frc_eq _ _).mp r3)
        | io t2 =>
          cases t2 with
          | dat y => exact r3.elim
          | scr y => exact r3.elim
          | nd a dx kd ts => exact fin _ _ g1 rfl ((frc_eq _ _).mp r3)
end DL

set_option maxRecDepth 100000
namespace R09
open PySem

/-! ### states, boxes -/
abbrev St := List Int
abbrev Bx := List (List Int)
def rowsB : Bx → List St
  | [] => [[]]
  | e :: b => e.flatMap fun v => (rowsB b).map (v :: ·)
def inB : Bx → St → Bool
  | [], [] => true
  | e :: b, v :: s => decide (v ∈ e) && inB b s
  | _, _ => false
def inAny (bs : List Bx) (s : St) : Bool := bs.any fun b => inB b s
theorem mem_rowsB : ∀ (b : Bx) (s : St), s ∈ rowsB b ↔ inB b s = true
  | [], [] => by simp [rowsB, inB]
  | [], _ :: _ => by simp [rowsB, inB]
  | e :: b, [] => by simp [rowsB, inB]
  | e :: b, v :: s => by
    simp only [rowsB, inB, List.mem_flatMap, List.mem_map, List.cons.injEq, Bool.and_eq_true, decide_eq_true_eq]
    constructor
    · rintro ⟨w, hw, r, hr, rfl, rfl⟩
      exact ⟨hw, (mem_rowsB b _).mp hr⟩
    · rintro ⟨h1, h2⟩
      exact ⟨v, h1, s, (mem_rowsB b s).mpr h2, rfl, rfl⟩
theorem inB_len : ∀ {b : Bx} {s : St}, inB b s = true → s.length = b.length
  | [], [], _ => rfl
  | [], _ :: _, h => by cases h
  | _ :: _, [], h => by cases h
  | e :: b, v :: s, h => by
    simp only [inB, Bool.and_eq_true] at h
    rw [List.length_cons, List.length_cons, inB_len h.2]
theorem inAny_iff {bs : List Bx} {s : St} : inAny bs s = true ↔ ∃ b ∈ bs, inB b s = true := by
  unfold inAny
  rw [List.any_eq_true]
theorem rowsB_ne {b : Bx} (h : ∀ e ∈ b, e ≠ []) : ∃ s, inB b s = true := by
  induction b with
  | nil => exact ⟨[], rfl⟩
  | cons e b ih =>
    obtain ⟨s, hs⟩ := ih fun x hx => h x (List.mem_cons_of_mem _ hx)
    obtain ⟨v, r, he⟩ := List.exists_cons_of_ne_nil (h e (List.mem_cons_self ..))
    exact ⟨v :: s, by simp [inB, hs, he]⟩

/-! ### sorted lists -/
def SS (l : List St) : Prop := l.Pairwise (· < ·)
def SI (l : List Int) : Prop := l.Pairwise (· < ·)
theorem pw_unique {α : Type} {lt : α → α → Prop} (irr : ∀ a, ¬ lt a a) (tr : ∀ a b c, lt a b → lt b c → lt a c) : ∀ {l m : List α}, l.Pairwise lt → m.Pairwise lt → (∀ x, x ∈ l ↔ x ∈ m) → l = m
  | [], [], _, _, _ => rfl
  | [], y :: m, _, _, h => absurd ((h y).mpr (List.mem_cons_self ..)) List.not_mem_nil
  | x :: l, [], _, _, h => absurd ((h x).mp (List.mem_cons_self ..)) List.not_mem_nil
  | x :: l, y :: m, hl, hm, h => by
    obtain ⟨hx, hl'⟩ := List.pairwise_cons.mp hl
    obtain ⟨hy, hm'⟩ := List.pairwise_cons.mp hm
    clear hl hm
    have e : x = y := by
      rcases List.mem_cons.mp ((h x).mp (List.mem_cons_self ..)) with e | m1
      · exact e
      · rcases List.mem_cons.mp ((h y).mpr (List.mem_cons_self ..)) with e | m2
        · exact e.symm
        · exact absurd (tr _ _ _ (hx y m2) (hy x m1)) (irr x)
    subst e
    refine congrArg (x :: ·) (pw_unique irr tr hl' hm' fun z => ?_)
    constructor
    · intro hz
      rcases List.mem_cons.mp ((h z).mp (List.mem_cons_of_mem _ hz)) with e | q
      · subst e; exact absurd (hx z hz) (irr z)
      · exact q
    · intro hz
      rcases List.mem_cons.mp ((h z).mpr (List.mem_cons_of_mem _ hz)) with e | q
      · subst e; exact absurd (hy z hz) (irr z)
      · exact q
theorem SS.unique {l m : List St} (hl : SS l) (hm : SS m) (h : ∀ x, x ∈ l ↔ x ∈ m) : l = m :=
  pw_unique (fun a => List.lt_irrefl a) (fun a b c h1 h2 => List.lt_trans h1 h2) hl hm h
theorem SI.unique {l m : List Int} (hl : SI l) (hm : SI m) (h : ∀ x, x ∈ l ↔ x ∈ m) : l = m :=
  pw_unique (fun a => Int.lt_irrefl a) (fun a b c h1 h2 => Int.lt_trans h1 h2) hl hm h
theorem cons_lt {a b : Int} {s t : St} : a :: s < b :: t ↔ a < b ∨ (a = b ∧ s < t) := List.cons_lt_cons_iff
theorem SS.nodup {l : List St} (h : SS l) : l.Nodup := List.Pairwise.imp (fun {a b} hab e => by subst e; exact List.lt_irrefl _ hab) h
theorem SI.nodup {l : List Int} (h : SI l) : l.Nodup := List.Pairwise.imp (fun {a b} hab e => by subst e; exact Int.lt_irrefl _ hab) h
theorem SS.filter {l : List St} (h : SS l) (p : St → Bool) : SS (l.filter p) := List.Pairwise.filter p h
theorem SS.tails {l : List St} (h : SS l) (v : Int) : SS (l.filterMap fun s => match s with | x :: r => if x = v then some r else none | [] => none) := by
  induction l with
  | nil => exact List.Pairwise.nil
  | cons s l ih =>
    obtain ⟨h1, h2⟩ := List.pairwise_cons.mp h
    rw [List.filterMap_cons]
    cases s with
    | nil => exact ih h2
    | cons x r =>
      by_cases hx : x = v
      · simp only [hx, if_true]
        refine List.pairwise_cons.mpr ⟨fun t ht => ?_, ih h2⟩
        obtain ⟨u, hu, e⟩ := List.mem_filterMap.mp ht
        cases u with
        | nil => cases e
        | cons y q =>
          by_cases hy : y = v
          · simp only [hy, if_true] at e
            cases e
            have := h1 _ hu
            rcases cons_lt.mp this with q | ⟨_, q⟩
            · omega
            · exact q
          · simp only [hy, if_false] at e
            cases e
      · simp only [hx, if_false]
        exact ih h2
end R09

set_option maxRecDepth 100000
namespace R09
open PySem

/-! ### first occurrences -/
def dd {α : Type} [DecidableEq α] (l : List α) : List α := l.foldl (fun acc x => if x ∈ acc then acc else acc ++ [x]) []
section
variable {α β : Type} [DecidableEq α] [DecidableEq β]
theorem dd_nil : dd ([] : List α) = [] := rfl
theorem dd_snoc (l : List α) (x : α) : dd (l ++ [x]) = if x ∈ dd l then dd l else dd l ++ [x] := by
  unfold dd
  rw [List.foldl_append]
  rfl
theorem rev_ind {P : List α → Prop} (h0 : P []) (h1 : ∀ l x, P l → P (l ++ [x])) (l : List α) : P l := by
  have : ∀ l : List α, P l.reverse := fun l => by
    induction l with
    | nil => exact h0
    | cons x l ih => rw [List.reverse_cons]; exact h1 _ _ ih
  rw [← List.reverse_reverse l]
  exact this _
theorem mem_dd {l : List α} {x : α} : x ∈ dd l ↔ x ∈ l := by
  induction l using rev_ind with
  | h0 => rfl
  | h1 l y ih =>
    rw [dd_snoc]
    by_cases h : y ∈ dd l
    · rw [if_pos h, ih, List.mem_append, List.mem_singleton]
      refine ⟨.inl, fun q => q.elim id fun e => ?_⟩
      subst e; exact ih.mp h
    · rw [if_neg h, List.mem_append, List.mem_append, ih]
theorem dd_snoc' (l : List α) (x : α) : dd (l ++ [x]) = if x ∈ l then dd l else dd l ++ [x] := by
  rw [dd_snoc]
  by_cases h : x ∈ l
  · rw [if_pos h, if_pos (mem_dd.mpr h)]
  · rw [if_neg h, if_neg (fun z => h (mem_dd.mp z))]
theorem nodup_dd (l : List α) : (dd l).Nodup := by
  induction l using rev_ind with
  | h0 => exact List.nodup_nil
  | h1 l y ih =>
    rw [dd_snoc]
    by_cases h : y ∈ dd l
    · rw [if_pos h]; exact ih
    · rw [if_neg h]
      refine List.nodup_append.mpr ⟨ih, by simp, fun a ha b hb e => ?_⟩
      have : b = y := by simpa using hb
      rw [e, this] at ha
      exact h ha
theorem dd_sub (l : List α) : (dd l).Sublist l := by
  induction l using rev_ind with
  | h0 => exact List.Sublist.refl _
  | h1 l y ih =>
    rw [dd_snoc]
    by_cases h : y ∈ dd l
    · rw [if_pos h]; exact ih.trans (List.sublist_append_left _ _)
    · rw [if_neg h]; exact List.Sublist.append ih (List.Sublist.refl _)
theorem dd_length_le (l : List α) : (dd l).length ≤ l.length := (dd_sub l).length_le
theorem dd_map {f : α → β} {l : List α} (inj : ∀ a ∈ l, ∀ b ∈ l, f a = f b → a = b) : dd (l.map f) = (dd l).map f := by
  induction l using rev_ind with
  | h0 => rfl
  | h1 l y ih =>
    have ih' := ih fun a ha b hb => inj a (List.mem_append_left _ ha) b (List.mem_append_left _ hb)
    rw [List.map_append, List.map_singleton, dd_snoc', dd_snoc', ih']
    have e : f y ∈ l.map f ↔ y ∈ l := by
      refine ⟨fun m => ?_, fun m => List.mem_map.mpr ⟨y, m, rfl⟩⟩
      obtain ⟨a, ha, ea⟩ := List.mem_map.mp m
      have := inj a (List.mem_append_left _ ha) y (List.mem_append_right _ (List.mem_singleton.mpr rfl)) ea
      rw [← this]; exact ha
    by_cases h : y ∈ l
    · rw [if_pos h, if_pos (e.mpr h)]
    · rw [if_neg h, if_neg (fun z => h (e.mp z)), List.map_append]; rfl
theorem dd_of_nodup {l : List α} (h : l.Nodup) : dd l = l := by
  induction l using rev_ind with
  | h0 => rfl
  | h1 l y ih =>
    obtain ⟨h1, _, h3⟩ := List.nodup_append.mp h
    rw [dd_snoc', if_neg (fun m => h3 y m y (List.mem_singleton.mpr rfl) rfl), ih h1]
end

/-! ### the law's boxes -/
def tls (v : Int) (ss : List St) : List St := ss.filterMap fun s => match s with | x :: r => if x = v then some r else none | [] => none
def hds (ss : List St) : List Int := dd (ss.filterMap List.head?)
def lb : Nat → List St → List Bx
  | 0, ss => if ss = [] then [] else [[]]
  | n + 1, ss => (dd ((hds ss).map fun v => tls v ss)).flatMap fun r => (lb n r).map fun b => ((hds ss).filter fun v => decide (tls v ss = r)) :: b
theorem mem_tls {v : Int} {ss : List St} {r : St} : r ∈ tls v ss ↔ v :: r ∈ ss := by
  unfold tls
  rw [List.mem_filterMap]
  constructor
  · rintro ⟨s, hs, e⟩
    cases s with
    | nil => cases e
    | cons x q =>
      by_cases h : x = v
      · simp only [h, if_true, Option.some.injEq] at e
        subst h e; exact hs
      · simp only [h, if_false] at e; cases e
  · intro h
    exact ⟨v :: r, h, by simp⟩
theorem mem_hds {v : Int} {ss : List St} : v ∈ hds ss ↔ ∃ r, v :: r ∈ ss := by
  unfold hds
  rw [mem_dd, List.mem_filterMap]
  constructor
  · rintro ⟨s, hs, e⟩
    cases s with
    | nil => cases e
    | cons x q => cases e; exact ⟨q, hs⟩
  · rintro ⟨r, h⟩
    exact ⟨v :: r, h, rfl⟩
theorem SS.tls {ss : List St} (h : SS ss) (v : Int) : SS (tls v ss) := h.tails v
def AllLen (n : Nat) (ss : List St) : Prop := ∀ s ∈ ss, s.length = n
theorem AllLen.tls {n : Nat} {ss : List St} (h : AllLen (n + 1) ss) (v : Int) : AllLen n (tls v ss) := fun r hr => by
  have := h _ (mem_tls.mp hr)
  simpa using this
theorem lb_sem : ∀ (n : Nat) (ss : List St), SS ss → AllLen n ss → ∀ s, inAny (lb n ss) s = true ↔ s ∈ ss
  | 0, ss, hs, hl, s => by
    unfold lb
    by_cases h : ss = []
    · subst h; simp [inAny]
    · rw [if_neg h]
      have he : ∀ x ∈ ss, x = [] := fun x hx => List.eq_nil_of_length_eq_zero (hl x hx)
      constructor
      · intro hi
        obtain ⟨b, hb, e⟩ := inAny_iff.mp hi
        have : b = [] := by simpa using hb
        subst this
        have : s = [] := List.eq_nil_of_length_eq_zero (inB_len e)
        subst this
        obtain ⟨x, r, e⟩ := List.exists_cons_of_ne_nil h
        have := he x (by rw [e]; exact List.mem_cons_self ..)
        rw [← this, e]; exact List.mem_cons_self ..
      · intro hm
        rw [he s hm]
        rfl
  | n + 1, ss, hs, hl, s => by
    rw [inAny_iff]
    constructor
    · rintro ⟨b, hb, e⟩
      unfold lb at hb
      obtain ⟨r, hr, hb⟩ := List.mem_flatMap.mp hb
      obtain ⟨b', hb', rfl⟩ := List.mem_map.mp hb
      cases s with
      | nil => cases e
      | cons v t =>
        simp only [inB, Bool.and_eq_true, decide_eq_true_eq, List.mem_filter] at e
        obtain ⟨⟨h1, h2⟩, h3⟩ := e
        subst h2
        have := (lb_sem n (tls v ss) (hs.tls v) (hl.tls v) t).mp (inAny_iff.mpr ⟨b', hb', h3⟩)
        exact mem_tls.mp this
    · intro hm
      cases s with
      | nil => have := hl _ hm; cases this
      | cons v t =>
        have ht : t ∈ tls v ss := mem_tls.mpr hm
        obtain ⟨b', hb', h3⟩ := inAny_iff.mp ((lb_sem n (tls v ss) (hs.tls v) (hl.tls v) t).mpr ht)
        have hv : v ∈ hds ss := mem_hds.mpr ⟨t, hm⟩
        refine ⟨((hds ss).filter fun u => decide (tls u ss = tls v ss)) :: b', ?_, ?_⟩
        · unfold lb
          exact List.mem_flatMap.mpr ⟨tls v ss, mem_dd.mpr (List.mem_map.mpr ⟨v, hv, rfl⟩), List.mem_map.mpr ⟨b', hb', rfl⟩⟩
        · simp only [inB, Bool.and_eq_true, decide_eq_true_eq, List.mem_filter]
          exact ⟨⟨hv, True.intro⟩, h3⟩
theorem lb_inj {n : Nat} {a b : List St} (ha : SS a) (hb : SS b) (la : AllLen n a) (lb' : AllLen n b) (h : lb n a = lb n b) : a = b :=
  ha.unique hb fun s => by rw [← lb_sem n a ha la s, ← lb_sem n b hb lb' s, h]
/-- n entries, none of them empty or with a number twice -/
def BoxOk (n : Nat) (b : Bx) : Prop := b.length = n ∧ ∀ e ∈ b, e ≠ [] ∧ e.Nodup
theorem lb_ok : ∀ (n : Nat) (ss : List St), ∀ b ∈ lb n ss, BoxOk n b
  | 0, ss, b, hb => by
    unfold lb at hb
    by_cases h : ss = []
    · rw [if_pos h] at hb; cases hb
    · rw [if_neg h] at hb
      have : b = [] := by simpa using hb
      subst this
      exact ⟨rfl, fun _ h => nomatch h⟩
  | n + 1, ss, b, hb => by
    unfold lb at hb
    obtain ⟨r, hr, hb⟩ := List.mem_flatMap.mp hb
    obtain ⟨b', hb', rfl⟩ := List.mem_map.mp hb
    obtain ⟨h1, h2⟩ := lb_ok n r b' hb'
    refine ⟨by rw [List.length_cons, h1], fun e he => ?_⟩
    rcases List.mem_cons.mp he with rfl | he
    · refine ⟨?_, (nodup_dd _).filter _⟩
      obtain ⟨v, hv, e⟩ := List.mem_map.mp (mem_dd.mp hr)
      intro hz
      have : v ∈ (hds ss).filter fun v => decide (tls v ss = r) := List.mem_filter.mpr ⟨hv, by simp [e]⟩
      rw [hz] at this
      cases this
    · exact h2 e he
/-- the entries hold no number that is not in the states -/
theorem lb_mem : ∀ (n : Nat) (ss : List St), ∀ b ∈ lb n ss, ∀ (i : Nat) (e : List Int), b[i]? = some e → ∀ v ∈ e, ∃ s ∈ ss, s[i]? = some v
  | 0, ss, b, hb, i, e, he, v, hv => by
    have := (lb_ok 0 ss b hb).1
    rw [List.eq_nil_of_length_eq_zero this] at he
    cases he
  | n + 1, ss, b, hb, i, e, he, v, hv => by
    unfold lb at hb
    obtain ⟨r, hr, hb⟩ := List.mem_flatMap.mp hb
    obtain ⟨b', hb', rfl⟩ := List.mem_map.mp hb
    obtain ⟨u, hu, eu⟩ := List.mem_map.mp (mem_dd.mp hr)
    cases i with
    | zero =>
      cases he
      obtain ⟨h1, _⟩ := List.mem_filter.mp hv
      obtain ⟨q, hq⟩ := mem_hds.mp h1
      exact ⟨_, hq, rfl⟩
    | succ i =>
      obtain ⟨s, hs, es⟩ := lb_mem n r b' hb' i e (by simpa using he) v hv
      rw [← eu] at hs
      exact ⟨u :: s, mem_tls.mp hs, by simpa using es⟩
theorem sum_sub {α : Type} {f : α → Nat} {l m : List α} (h : l.Sublist m) : (l.map f).sum ≤ (m.map f).sum := by
  induction h with
  | slnil => exact Nat.le_refl _
  | cons a _ ih => rw [List.map_cons, List.sum_cons]; omega
  | cons_cons a _ ih => rw [List.map_cons, List.sum_cons, List.map_cons, List.sum_cons]; omega
theorem sum_tls : ∀ (ss : List St) {vs : List Int}, vs.Nodup → (vs.map fun v => (tls v ss).length).sum ≤ ss.length
  | [], vs, _ => by
    induction vs with
    | nil => exact Nat.le_refl _
    | cons v vs ih => rw [List.map_cons, List.sum_cons]; have : tls v [] = [] := rfl; rw [this]; simpa using ih (by rename_i h; exact (List.nodup_cons.mp h).2)
  | s :: ss, vs, h => by
    have ih := sum_tls ss h
    have key : (vs.map fun v => (tls v (s :: ss)).length).sum ≤ (vs.map fun v => (tls v ss).length).sum + 1 := by
      clear ih
      cases s with
      | nil =>
        have : ∀ v, tls v ([] :: ss) = tls v ss := fun v => rfl
        simp only [this]; omega
      | cons x r =>
        induction vs with
        | nil => exact Nat.zero_le _
        | cons v vs ih =>
          obtain ⟨h1, h2⟩ := List.nodup_cons.mp h
          rw [List.map_cons, List.sum_cons, List.map_cons, List.sum_cons]
          by_cases hx : x = v
          · have e1 : tls v ((x :: r) :: ss) = r :: tls v ss := by unfold tls; rw [List.filterMap_cons]; simp [hx]
            have e2 : (vs.map fun v => (tls v ((x :: r) :: ss)).length) = vs.map fun v => (tls v ss).length := by
              refine List.map_congr_left fun u hu => ?_
              have : x ≠ u := fun e => h1 (by rw [← hx, e]; exact hu)
              unfold tls; rw [List.filterMap_cons]; simp [this]
            rw [e1, e2, List.length_cons]; omega
          · have e1 : tls v ((x :: r) :: ss) = tls v ss := by unfold tls; rw [List.filterMap_cons]; simp [hx]
            have := ih h2
            rw [e1]; omega
    rw [List.length_cons]
    omega
theorem lb_length : ∀ (n : Nat) (ss : List St), (lb n ss).length ≤ ss.length
  | 0, ss => by
    unfold lb
    by_cases h : ss = []
    · rw [if_pos h]; exact Nat.zero_le _
    · rw [if_neg h]
      exact Nat.pos_of_ne_zero fun e => h (List.eq_nil_of_length_eq_zero e)
  | n + 1, ss => by
    unfold lb
    rw [List.length_flatMap]
    have e : (dd ((hds ss).map fun v => tls v ss)).map (fun r => ((lb n r).map fun b => ((hds ss).filter fun v => decide (tls v ss = r)) :: b).length) = (dd ((hds ss).map fun v => tls v ss)).map fun r => (lb n r).length :=
      List.map_congr_left fun r _ => by rw [List.length_map]
    rw [e]
    refine Nat.le_trans (m := ((dd ((hds ss).map fun v => tls v ss)).map List.length).sum) ?_ (Nat.le_trans (sum_sub (dd_sub _)) ?_)
    · generalize dd ((hds ss).map fun v => tls v ss) = l
      induction l with
      | nil => exact Nat.le_refl _
      | cons r l ih => rw [List.map_cons, List.sum_cons, List.map_cons, List.sum_cons]; have := lb_length n r; omega
    · rw [List.map_map]
      exact sum_tls ss (nodup_dd _)
end R09

set_option maxRecDepth 100000
namespace R09
open PySem DL

/-! ### the joined boxes -/
def hasV (v : Int) (b : Bx) : Bool := match b with
  | e :: _ => decide (v ∈ e)
  | [] => false
def jrest (v : Int) (bs : List Bx) : List Bx := dd ((bs.filter (hasV v)).map List.tail)
/-- n entries, none of them empty -/
def BoxNe (n : Nat) (b : Bx) : Prop := b.length = n ∧ ∀ e ∈ b, e ≠ []
theorem BoxOk.ne {n : Nat} {b : Bx} (h : BoxOk n b) : BoxNe n b := ⟨h.1, fun e he => (h.2 e he).1⟩
def SameSet (bs : List Bx) (ss : List St) : Prop := ∀ s, inAny bs s = true ↔ s ∈ ss
theorem mem_jrest {v : Int} {bs : List Bx} {t : Bx} : t ∈ jrest v bs ↔ ∃ e, e :: t ∈ bs ∧ v ∈ e ∨ (∃ b ∈ bs, hasV v b = true ∧ b.tail = t) := by
  unfold jrest
  rw [mem_dd, List.mem_map]
  constructor
  · rintro ⟨b, hb, rfl⟩
    obtain ⟨h1, h2⟩ := List.mem_filter.mp hb
    exact ⟨[], .inr ⟨b, h1, h2, rfl⟩⟩
  · rintro ⟨e, ⟨h1, h2⟩ | ⟨b, h1, h2, h3⟩⟩
    · exact ⟨e :: t, List.mem_filter.mpr ⟨h1, by simp [hasV, h2]⟩, rfl⟩
    · exact ⟨b, List.mem_filter.mpr ⟨h1, h2⟩, h3⟩
theorem jrest_same {n : Nat} {bs : List Bx} {ss : List St} (hn : ∀ b ∈ bs, BoxNe (n + 1) b) (h : SameSet bs ss) (v : Int) : SameSet (jrest v bs) (tls v ss) := fun r => by
  rw [mem_tls, ← h, inAny_iff, inAny_iff]
  constructor
  · rintro ⟨t, ht, hr⟩
    unfold jrest at ht
    obtain ⟨b, hb, rfl⟩ := List.mem_map.mp (mem_dd.mp ht)
    obtain ⟨h1, h2⟩ := List.mem_filter.mp hb
    refine ⟨b, h1, ?_⟩
    cases b with
    | nil => cases h2
    | cons e b =>
      simp only [hasV] at h2
      simp only [inB, Bool.and_eq_true]
      exact ⟨h2, hr⟩
  · rintro ⟨b, hb, e⟩
    cases b with
    | nil => cases e
    | cons e' b =>
      simp only [inB, Bool.and_eq_true] at e
      refine ⟨b, ?_, e.2⟩
      unfold jrest
      exact mem_dd.mpr (List.mem_map.mpr ⟨e' :: b, List.mem_filter.mpr ⟨hb, e.1⟩, rfl⟩)
theorem jrest_ne {n : Nat} {bs : List Bx} (hn : ∀ b ∈ bs, BoxNe (n + 1) b) (v : Int) : ∀ t ∈ jrest v bs, BoxNe n t := fun t ht => by
  unfold jrest at ht
  obtain ⟨b, hb, rfl⟩ := List.mem_map.mp (mem_dd.mp ht)
  obtain ⟨h1, _⟩ := List.mem_filter.mp hb
  obtain ⟨g1, g2⟩ := hn b h1
  exact ⟨by rw [List.length_tail, g1]; rfl, fun e he => g2 e (List.mem_of_mem_tail he)⟩
theorem jrest_length (v : Int) (bs : List Bx) : (jrest v bs).length ≤ bs.length := by
  unfold jrest
  refine Nat.le_trans (dd_length_le _) ?_
  rw [List.length_map]
  exact List.length_filter_le _ _
theorem pw_dd {l : List Int} (h : l.Pairwise (· ≤ ·)) : SI (dd l) := by
  have h1 : (dd l).Pairwise (· ≤ ·) := h.sublist (dd_sub l)
  have h2 := nodup_dd l
  unfold SI
  exact (List.pairwise_and_iff.mpr ⟨h1, h2⟩).imp fun ⟨a, b⟩ => Int.lt_iff_le_and_ne.mpr ⟨a, b⟩
theorem hds_sorted {ss : List St} (h : SS ss) : SI (hds ss) := by
  unfold hds
  refine pw_dd ?_
  refine List.Pairwise.filterMap List.head? (fun a b hab x hx y hy => ?_) h
  cases a with
  | nil => cases hx
  | cons p r =>
    cases b with
    | nil => cases hy
    | cons q t =>
      cases hx; cases hy
      rcases cons_lt.mp hab with h | ⟨h, _⟩
      · exact Int.le_of_lt h
      · exact Int.le_of_eq h
theorem vals_eq {n : Nat} {bs : List Bx} {ss : List St} {vs : List Int} (hn : ∀ b ∈ bs, BoxNe (n + 1) b) (hs : SS ss) (h : SameSet bs ss) (hv : SI vs) (hm : ∀ v, v ∈ vs ↔ ∃ b ∈ bs, hasV v b = true) : vs = hds ss := by
  refine hv.unique (hds_sorted hs) fun v => ?_
  rw [hm, mem_hds]
  constructor
  · rintro ⟨b, hb, e⟩
    cases b with
    | nil => cases e
    | cons e' b =>
      obtain ⟨t, ht⟩ := rowsB_ne (b := b) fun x hx => (hn _ hb).2 x (List.mem_cons_of_mem _ hx)
      refine ⟨t, (h _).mp (inAny_iff.mpr ⟨_, hb, ?_⟩)⟩
      simp only [hasV] at e
      simp only [inB, Bool.and_eq_true]
      exact ⟨e, ht⟩
  · rintro ⟨r, hr⟩
    obtain ⟨b, hb, e⟩ := inAny_iff.mp ((h _).mpr hr)
    cases b with
    | nil => cases e
    | cons e' b =>
      simp only [inB, Bool.and_eq_true] at e
      exact ⟨_, hb, e.1⟩
/-- the groups of numbers by their rests, laid out -/
def laid (vs : List Int) (f : Int → List Bx) : List Bx := (dd (vs.map f)).flatMap fun key => key.map fun b => (vs.filter fun v => decide (f v = key)) :: b
theorem laid_lb {n : Nat} {ss : List St} (hs : SS ss) (hl : AllLen (n + 1) ss) : laid (hds ss) (fun v => lb n (tls v ss)) = lb (n + 1) ss := by
  unfold laid
  have inj : ∀ a ∈ (hds ss).map (fun v => tls v ss), ∀ b ∈ (hds ss).map (fun v => tls v ss), lb n a = lb n b → a = b := fun a ha b hb e => by
    obtain ⟨v, _, rfl⟩ := List.mem_map.mp ha
    obtain ⟨u, _, rfl⟩ := List.mem_map.mp hb
    exact lb_inj (hs.tls v) (hs.tls u) (hl.tls v) (hl.tls u) e
  have e1 : (hds ss).map (fun v => lb n (tls v ss)) = ((hds ss).map fun v => tls v ss).map (lb n) := by rw [List.map_map]; rfl
  rw [e1, dd_map inj, List.flatMap_map]
  show _ = (dd ((hds ss).map fun v => tls v ss)).flatMap fun r => (lb n r).map fun b => ((hds ss).filter fun v => decide (tls v ss = r)) :: b
  refine flatMap_congr' fun r hr => ?_
  refine List.map_congr_left fun b _ => ?_
  congr 1
  refine List.filter_congr fun v hv => ?_
  refine decide_eq_decide.mpr ⟨fun e => ?_, fun e => by show lb n (tls v ss) = _; rw [e]⟩
  exact inj _ (List.mem_map.mpr ⟨v, hv, rfl⟩) _ (mem_dd.mp hr) e
where
  flatMap_congr' {α β : Type} {l : List α} {f g : α → List β} (h : ∀ a ∈ l, f a = g a) : l.flatMap f = l.flatMap g := by
    rw [List.flatMap_def, List.flatMap_def, List.map_congr_left h]

/-! ### as data -/
def encS (s : List Int) : PyData := .tuple (s.map PyData.int)
def encB (b : Bx) : PyData := .tuple (b.map encS)
def encBs (bs : List Bx) : PyData := .tuple (bs.map encB)
def keyS (s : List Int) : NestedKey := .tup (s.map NestedKey.num)
def keyB (b : Bx) : NestedKey := .tup (b.map keyS)
def keyBs (bs : List Bx) : NestedKey := .tup (bs.map keyB)
theorem datas_map (ks : List NestedKey) : NestedKey.datas ks = ks.map NestedKey.data := by
  induction ks with
  | nil => rfl
  | cons k ks ih => show k.data :: NestedKey.datas ks = _; rw [ih]; rfl
theorem data_tup {α : Type} (f : α → NestedKey) (g : α → PyData) (h : ∀ a, (f a).data = g a) (l : List α) : (NestedKey.tup (l.map f)).data = .tuple (l.map g) := by
  show PyData.tuple (NestedKey.datas (l.map f)) = _
  rw [datas_map, List.map_map]
  congr 1
  exact List.map_congr_left fun a _ => h a
theorem keyS_data (s : List Int) : (keyS s).data = encS s := data_tup _ _ (fun _ => rfl) s
theorem keyB_data (b : Bx) : (keyB b).data = encB b := data_tup _ _ keyS_data b
theorem keyBs_data (b : List Bx) : (keyBs b).data = encBs b := data_tup _ _ keyB_data b
theorem map_inj' {α β : Type} {f : α → β} (h : ∀ a b, f a = f b → a = b) : ∀ {l m : List α}, l.map f = m.map f → l = m
  | [], [], _ => rfl
  | [], _ :: _, e => by cases e
  | _ :: _, [], e => by cases e
  | a :: l, b :: m, e => by
    rw [List.map_cons, List.map_cons] at e
    injection e with e1 e2
    rw [h _ _ e1, map_inj' h e2]
theorem keyS_inj {a b : List Int} (h : keyS a = keyS b) : a = b := by
  unfold keyS at h
  injection h with h
  exact map_inj' (fun a b e => by injection e) h
theorem keyB_inj {a b : Bx} (h : keyB a = keyB b) : a = b := by
  unfold keyB at h
  injection h with h
  exact map_inj' (fun a b e => keyS_inj e) h
theorem keyBs_inj {a b : List Bx} (h : keyBs a = keyBs b) : a = b := by
  unfold keyBs at h
  injection h with h
  exact map_inj' (fun a b e => keyB_inj e) h
theorem depthAll_le {n : Nat} : ∀ {ks : List NestedKey}, (∀ k ∈ ks, k.depth ≤ n) → NestedKey.depthAll ks ≤ n
  | [], _ => Nat.zero_le _
  | k :: ks, h => by
    simp only [NestedKey.depthAll]
    exact Nat.max_le.mpr ⟨h k (List.mem_cons_self ..), depthAll_le fun x hx => h x (List.mem_cons_of_mem _ hx)⟩
theorem depth_tup {n : Nat} {ks : List NestedKey} (h : ∀ k ∈ ks, k.depth ≤ n) : (NestedKey.tup ks).depth ≤ n + 1 := by
  simp only [NestedKey.depth]
  have := depthAll_le h
  omega
theorem keyS_depth (s : List Int) : (keyS s).depth ≤ 1 := depth_tup (n := 0) fun k hk => by
  obtain ⟨i, _, rfl⟩ := List.mem_map.mp hk
  exact Nat.le_refl _
theorem keyB_depth (b : Bx) : (keyB b).depth ≤ 2 := depth_tup fun k hk => by
  obtain ⟨i, _, rfl⟩ := List.mem_map.mp hk
  exact keyS_depth i
theorem keyBs_depth (b : List Bx) : (keyBs b).depth ≤ 3 := depth_tup fun k hk => by
  obtain ⟨i, _, rfl⟩ := List.mem_map.mp hk
  exact keyB_depth i
theorem keyS_ok (s : List Int) : KeyOk true (encS s) (keyS s) := ⟨keyS_data s, Nat.le_trans (keyS_depth s) (by decide)⟩
theorem keyB_ok (s : Bx) : KeyOk true (encB s) (keyB s) := ⟨keyB_data s, Nat.le_trans (keyB_depth s) (by decide)⟩
theorem keyBs_ok (s : List Bx) : KeyOk true (encBs s) (keyBs s) := ⟨keyBs_data s, Nat.le_trans (keyBs_depth s) (by decide)⟩
/-- == -/
theorem eqvAll_map {α : Type} [DecidableEq α] {f : α → PyData} (h : ∀ a b, PyData.eqv (f a) (f b) = decide (a = b)) : ∀ l m : List α, PyData.eqvAll (l.map f) (m.map f) = decide (l = m)
  | [], [] => by simp [PyData.eqvAll]
  | [], _ :: _ => by simp [PyData.eqvAll]
  | _ :: _, [] => by simp [PyData.eqvAll]
  | a :: l, b :: m => by
    simp only [List.map_cons, PyData.eqvAll, h, eqvAll_map h l m]
    by_cases e : a = b <;> simp [e]
theorem eqv_int (a b : Int) : PyData.eqv (.int a) (.int b) = decide (a = b) := by simp only [PyData.eqv]; by_cases h : a = b <;> simp [h]
theorem eqv_tup (l m : List PyData) : PyData.eqv (.tuple l) (.tuple m) = PyData.eqvAll l m := by simp only [PyData.eqv]
theorem eqv_lst (l m : List PyData) : PyData.eqv (.list l) (.list m) = PyData.eqvAll l m := by simp only [PyData.eqv]
theorem eqv_S (a b : List Int) : PyData.eqv (encS a) (encS b) = decide (a = b) := by unfold encS; rw [eqv_tup, eqvAll_map eqv_int]
theorem eqv_B (a b : Bx) : PyData.eqv (encB a) (encB b) = decide (a = b) := by unfold encB; rw [eqv_tup, eqvAll_map eqv_S]
theorem canAll {α : Type} {f : α → PyData} (h : ∀ a, (f a).canLay0 = true) : ∀ l : List α, PyData.canLayAll0 (l.map f) = true
  | [] => by simp [PyData.canLayAll0]
  | a :: l => by simp [PyData.canLayAll0, h, canAll h l]
theorem depthAllD {α : Type} {f : α → PyData} {n : Nat} (h : ∀ a, (f a).depth ≤ n) : ∀ l : List α, PyData.depthAll (l.map f) ≤ n
  | [] => by simp [PyData.depthAll]
  | a :: l => by simp only [List.map_cons, PyData.depthAll]; exact Nat.max_le.mpr ⟨h a, depthAllD h l⟩
theorem can_S (s : List Int) : (encS s).canLay0 = true := by unfold encS; simp only [PyData.canLay0]; exact canAll (fun _ => by simp [PyData.canLay0]) s
theorem can_B (s : Bx) : (encB s).canLay0 = true := by unfold encB; simp only [PyData.canLay0]; exact canAll can_S s
theorem dep_S (s : List Int) : (encS s).depth ≤ 1 := by
  unfold encS; simp only [PyData.depth]
  have := depthAllD (f := PyData.int) (n := 0) (fun _ => by simp [PyData.depth]) s
  omega
theorem dep_B (s : Bx) : (encB s).depth ≤ 2 := by
  unfold encB; simp only [PyData.depth]
  have := depthAllD (f := encS) (n := 1) dep_S s
  omega
theorem shaped_of {x : PyData} (h1 : x.canLay0 = true) {n : Nat} (h2 : x.depth ≤ n) (h3 : n ≤ 64) : SeqAt.shaped x = true := by
  unfold SeqAt.shaped
  rw [h1, Bool.true_and, decide_eq_true_eq]
  omega
theorem shaped_list {α : Type} {f : α → PyData} {n : Nat} (h1 : ∀ a, (f a).canLay0 = true) (h2 : ∀ a, (f a).depth ≤ n) (h3 : n ≤ 63) (l : List α) : SeqAt.shaped (.list (l.map f)) = true :=
  shaped_of (n := n + 1) (by simp only [PyData.canLay0]; exact canAll h1 l) (by simp only [PyData.depth]; have := depthAllD h2 l; omega) (by omega)
theorem shaped_ints (l : List Int) : SeqAt.shaped (.list (l.map PyData.int)) = true := shaped_list (n := 0) (fun _ => by simp [PyData.canLay0]) (fun _ => by simp [PyData.depth]) (by decide) l
theorem shaped_Ss (l : List St) : SeqAt.shaped (.list (l.map encS)) = true := shaped_list can_S dep_S (by decide) l
theorem shaped_Bs (l : List Bx) : SeqAt.shaped (.list (l.map encB)) = true := shaped_list can_B dep_B (by decide) l
theorem shaped_S (s : List Int) : SeqAt.shaped (encS s) = true := shaped_of (can_S s) (dep_S s) (by decide)
theorem shaped_B (s : Bx) : SeqAt.shaped (encB s) = true := shaped_of (can_B s) (dep_B s) (by decide)
/-! sorted -/
open PySem.W (AllAlike Sortable dataLe)
def leS (a b : St) : Bool := decide (a ≤ b)
def leI (a b : Int) : Bool := decide (a ≤ b)
theorem dataLe_S : dataLe false encS = leS := PySem.W.dataLe_rows (fun s : St => s)
theorem dataLe_I : dataLe false PyData.int = leI := PySem.W.dataLe_int (fun s : Int => s)
theorem sortD_S (ss : List St) : sortD (ss.map encS) = (ss.mergeSort leS).map encS := by
  rw [← dataLe_S]
  exact (List.map_mergeSort (r := dataLe false encS) (s := dataLe false id) (f := encS) (l := ss) (fun a _ b _ => rfl)).symm
theorem sortD_I (ss : List Int) : sortD (ss.map PyData.int) = (ss.mergeSort leI).map PyData.int := by
  rw [← dataLe_I]
  exact (List.map_mergeSort (r := dataLe false PyData.int) (s := dataLe false id) (f := PyData.int) (l := ss) (fun a _ b _ => rfl)).symm
theorem sortOk_S {ss : List St} (h : ∀ s ∈ ss, s ≠ []) (hl : ss.length ≤ sizeLine) : SortOk (ss.map encS) := by
  refine ⟨fun d hd d' hd' => ?_, .inl fun d hd => ?_, by rw [List.length_map]; exact hl, fun d hd => ?_⟩
  · obtain ⟨a, _, rfl⟩ := List.mem_map.mp hd
    obtain ⟨b, _, rfl⟩ := List.mem_map.mp hd'
    show PySem.W.alike (.tuple _) (.tuple _) = true
    simp only [PySem.W.alike]
    exact PySem.W.alike_ints a b
  · obtain ⟨a, ha, rfl⟩ := List.mem_map.mp hd
    obtain ⟨x, r, e⟩ := List.exists_cons_of_ne_nil (h a ha)
    exact ⟨.int x, r.map .int, by rw [e]; rfl⟩
  · obtain ⟨a, _, rfl⟩ := List.mem_map.mp hd
    have := dep_S a
    omega
theorem sortOk_I {ss : List Int} (hl : ss.length ≤ sizeLine) : SortOk (ss.map PyData.int) := by
  refine ⟨fun d hd d' hd' => ?_, .inr fun d hd => ?_, by rw [List.length_map]; exact hl, fun d hd => ?_⟩
  · obtain ⟨a, _, rfl⟩ := List.mem_map.mp hd
    obtain ⟨b, _, rfl⟩ := List.mem_map.mp hd'
    simp [PySem.W.alike]
  · obtain ⟨a, ha, rfl⟩ := List.mem_map.mp hd
    exact ⟨(fun e => nomatch e), (fun xs e => nomatch e)⟩
  · obtain ⟨a, _, rfl⟩ := List.mem_map.mp hd
    simp [PyData.depth]
theorem sort_SS {ss : List St} (h : ss.Nodup) : SS (ss.mergeSort leS) := by
  have h1 := List.pairwise_mergeSort (le := leS) (fun a b c h1 h2 => by
    unfold leS at *
    simp only [decide_eq_true_eq] at *
    exact List.le_trans h1 h2) (fun a b => by
    unfold leS
    simp only [Bool.or_eq_true, decide_eq_true_eq]
    exact List.le_total a b) ss
  have h2 : (ss.mergeSort leS).Nodup := (List.mergeSort_perm ss leS).nodup_iff.mpr h
  refine (List.pairwise_and_iff.mpr ⟨h1, h2⟩).imp fun {a b} ⟨q, ne⟩ => ?_
  have q' : a ≤ b := by simpa [leS] using q
  rcases Decidable.em (a < b) with l | l
  · exact l
  · exact absurd (List.le_antisymm q' (List.not_lt.mp l)) ne
theorem sort_SI {ss : List Int} (h : ss.Nodup) : SI (ss.mergeSort leI) := by
  have h1 := List.pairwise_mergeSort (le := leI) (fun a b c h1 h2 => by
    unfold leI at *
    simp only [decide_eq_true_eq] at *
    omega) (fun a b => by
    unfold leI
    simp only [Bool.or_eq_true, decide_eq_true_eq]
    omega) ss
  have h2 : (ss.mergeSort leI).Nodup := (List.mergeSort_perm ss leI).nodup_iff.mpr h
  refine (List.pairwise_and_iff.mpr ⟨h1, h2⟩).imp fun {a b} ⟨q, ne⟩ => ?_
  have q' : a ≤ b := by simpa [leI] using q
  omega
theorem mem_sortS {ss : List St} {s : St} : s ∈ ss.mergeSort leS ↔ s ∈ ss := (List.mergeSort_perm ss leS).mem_iff
theorem mem_sortI {ss : List Int} {s : Int} : s ∈ ss.mergeSort leI ↔ s ∈ ss := (List.mergeSort_perm ss leI).mem_iff
/-- the states of any list, sorted -/
def sd (ss : List St) : List St := (dd ss).mergeSort leS
theorem sd_SS (ss : List St) : SS (sd ss) := sort_SS (nodup_dd ss)
theorem mem_sd {ss : List St} {s : St} : s ∈ sd ss ↔ s ∈ ss := by unfold sd; rw [mem_sortS, mem_dd]
theorem sd_length (ss : List St) : (sd ss).length ≤ ss.length := by unfold sd; rw [List.length_mergeSort]; exact dd_length_le ss
end R09

set_option maxRecDepth 100000
namespace DL
open PySem
/-! ### loops by what holds between the turns -/
theorem forGo_pre {α : Type} {wG : WG} {wb : WS} {R : EndsD} {en : En} (f : α → PyData) (xs : List α) (I : List α → En → Prop) (h0 : I [] en)
    (hs : ∀ pre x post en K, xs = pre ++ x :: post → (∀ en', I (pre ++ [x]) en' → K en') → I pre en → wG (.dat (f x)) en fun en2 => wb { R with nx := K, ct := K, bk := R.nx } en2)
    (hn : ∀ en, I xs en → R.nx en) : forGo wG wb (xs.map f) R en := by
  have key : ∀ (post pre : List α) (en : En), xs = pre ++ post → I pre en → forGo wG wb (post.map f) R en := fun post => by
    induction post with
    | nil =>
      intro pre en e h
      rw [List.append_nil] at e
      subst e
      exact hn en h
    | cons x post ih =>
      intro pre en e h
      exact hs pre x post en _ e (fun en' h' => ih (pre ++ [x]) en' (by rw [e, List.append_assoc]; rfl) h') h
  exact key xs [] en rfl h0
theorem lcGo_pre {α : Type} {body : LcB} {acc : List T} {en : En} {Q : List T → En → Prop} (f : α → PyData) (xs : List α) (I : List α → List T → En → Prop) (h0 : I [] acc en)
    (hs : ∀ pre x post acc en K, xs = pre ++ x :: post → (∀ acc' en', I (pre ++ [x]) acc' en' → K acc' en') → I pre acc en → body (f x) acc en K)
    (hn : ∀ acc en, I xs acc en → Q acc en) : lcGo body (xs.map f) acc en Q := by
  have key : ∀ (post pre : List α) (acc : List T) (en : En), xs = pre ++ post → I pre acc en → lcGo body (post.map f) acc en Q := fun post => by
    induction post with
    | nil =>
      intro pre acc en e h
      rw [List.append_nil] at e
      subst e
      exact hn acc en h
    | cons x post ih =>
      intro pre acc en e h
      exact hs pre x post acc en _ e (fun acc' en' h' => ih (pre ++ [x]) acc' en' (by rw [e, List.append_assoc]; rfl) h') h
  exact key xs [] acc en rfl h0
/-- each item gives some items, the slots stay -/
theorem lcGo_flat {α β : Type} {body : LcB} {acc : List β} {en : En} {Q : List T → En → Prop} (f : α → PyData) (h : β → T) (g : α → List β) (xs : List α)
    (hs : ∀ (acc : List β) (x : α) (K : List T → En → Prop), x ∈ xs → acc.length + (g x).length ≤ sizeLine → K ((acc ++ g x).map h) en → body (f x) (acc.map h) en K)
    (hl : acc.length + (xs.flatMap g).length ≤ sizeLine) (hn : Q ((acc ++ xs.flatMap g).map h) en) : lcGo body (xs.map f) (acc.map h) en Q := by
  induction xs generalizing acc with
  | nil => rw [List.flatMap_nil, List.append_nil] at hn; exact hn
  | cons x xs ih =>
    rw [List.flatMap_cons, List.length_append] at hl
    refine hs acc x _ (List.mem_cons_self ..) (by omega) (ih (acc := acc ++ g x) (fun acc y K hy => hs acc y K (List.mem_cons_of_mem _ hy)) (by rw [List.length_append]; omega) ?_)
    rw [List.flatMap_cons] at hn
    rw [List.append_assoc]
    exact hn
theorem pls_dats (xs : List PyData) : T.pls (xs.map T.dat) = some xs := T.pls_dat xs
theorem ixN_in {n : Nat} {i : Int} (h0 : 0 ≤ i) (h1 : i < n) : L2.ixN n i = some i.toNat := by
  unfold L2.ixN
  rw [if_pos h0, if_pos h1]
theorem ixN_nat {n i : Nat} (h1 : i < n) : L2.ixN n (i : Int) = some i := by
  rw [ixN_in (Int.natCast_nonneg i) (Int.ofNat_lt.mpr h1)]; rfl
theorem ix_at {α β : Type} {xs : List α} {f : α → β} {i : Int} (h0 : 0 ≤ i) (h1 : i < (xs.map f).length) : ∃ x ∈ xs, xs[i.toNat]? = some x ∧ L2.ixN (xs.map f).length i = some i.toNat ∧ (xs.map f)[i.toNat]? = some (f x) := by
  have hl : i.toNat < xs.length := by rw [List.length_map] at h1; omega
  refine ⟨xs[i.toNat], List.getElem_mem hl, List.getElem?_eq_getElem hl, ixN_in h0 h1, ?_⟩
  rw [List.getElem?_map, List.getElem?_eq_getElem hl]; rfl
theorem cut_map {α β : Type} (f : α → β) (xs : List α) (lo hi : Option Int) : cut (xs.map f) lo hi = (cut xs lo hi).map f := by
  unfold cut
  rw [List.length_map, List.map_take, List.map_drop]
theorem lst_data (xs : List PyData) : (T.nd .lst (xs.map T.dat)).data? = some (.list xs) := by
  show (match T.datas? (xs.map T.dat) with | some xs => some (PyData.list xs) | none => none) = _
  rw [T.datas_dat]
theorem le_sz {n : Nat} (h : n ≤ 16777216) : n ≤ sizeLine := by rw [sizeLine_eq]; exact h
theorem lt_sz {n : Nat} (h : n < 16777216) : n < sizeLine := by rw [sizeLine_eq]; exact h
theorem cut_length {α : Type} (xs : List α) (lo hi : Option Int) : (cut xs lo hi).length ≤ xs.length := by
  unfold cut
  rw [List.length_take, List.length_drop]
  omega
theorem md_map {α : Type} (f : α → PyData) (xs : List α) : (xs.map f).map T.dat = xs.map fun x => T.dat (f x) := by rw [List.map_map]; rfl
theorem lst_sqK (xs : List PyData) : (T.nd .lst (xs.map T.dat)).sqK = some xs := T.pls_dat xs
theorem lst_lsK (xs : List PyData) : (T.nd .lst (xs.map T.dat)).lsK = some xs := T.pls_dat xs
theorem lst_sqD (xs : List PyData) : (T.nd .lst (xs.map T.dat)).sqD = some xs := T.pls_dat xs
theorem lst_lsD (xs : List PyData) : (T.nd .lst (xs.map T.dat)).lsD = some xs := T.pls_dat xs
theorem snoc_lst {α : Type} (f : α → PyData) (xs : List α) (x : α) : lstT ((xs ++ [x]).map f) = .nd .lst ((xs.map f).map T.dat ++ [.dat (f x)]) := by simp
theorem getD_at {α β : Type} (xs : List α) (f : α → β) (d : α) {i : Nat} (h : i < xs.length) : (xs.map f)[i]? = some (f (xs.getD i d)) := by
  rw [List.getElem?_map, List.getElem?_eq_getElem h, List.getD_eq_getElem?_getD, List.getElem?_eq_getElem h]; rfl
theorem rngD_nat (n : Nat) : rngD 0 ((n : Nat) : Int).toNat = (List.range n).map fun i => PyData.int ((i : Nat) : Int) := by
  unfold rngD
  rw [Int.toNat_natCast]
  exact List.map_congr_left fun i _ => by simp
theorem six_some (n d k : Nat) : HT.sIx n d (some (k : Int)) = min k n := by
  show (if ((k : Int)) < 0 then ((k : Int) + (n : Int)).toNat else min (k : Int).toNat n) = _
  rw [if_neg (by omega), Int.toNat_natCast]
theorem six_none (n d : Nat) : HT.sIx n d none = d := rfl
theorem cut_upto {α : Type} (xs : List α) (k : Nat) : cut xs none (some (k : Int)) = xs.take k := by
  unfold cut
  rw [six_some, six_none, Nat.sub_zero, List.drop_zero, Nat.min_def]
  split
  · rfl
  · rw [List.take_of_length_le (Nat.le_refl _), List.take_of_length_le (by omega)]
theorem cut_from {α : Type} (xs : List α) (k : Nat) : cut xs (some (k : Int)) none = xs.drop k := by
  unfold cut
  rw [six_some, six_none, Nat.min_def]
  split
  · rw [List.take_of_length_le (by rw [List.length_drop]; omega)]
  · rw [List.drop_of_length_le (Nat.le_refl _), List.drop_of_length_le (by omega), List.take_nil]
end DL

set_option maxRecDepth 100000
namespace DL
open PySem
/-! ### data of nested lists -/
theorem nd_data {ts : List T} {xs : List PyData} (h : T.datas? ts = some xs) : (T.nd .lst ts).data? = some (.list xs) := by
  show (match T.datas? ts with | some xs => some (PyData.list xs) | none => none) = _
  rw [h]
theorem datas_n : T.datas? [] = some [] := rfl
theorem datas_c {t : T} {x : PyData} {ts : List T} {xs : List PyData} (h : t.data? = some x) (h' : T.datas? ts = some xs) : T.datas? (t :: ts) = some (x :: xs) := by
  show (match t.data? with | some x => (match T.datas? ts with | some xs => some (x :: xs) | none => none) | none => none) = _
  rw [h, h']
theorem datas_mapF {α : Type} {f : α → T} {g : α → PyData} (h : ∀ a, (f a).data? = some (g a)) : ∀ l : List α, T.datas? (l.map f) = some (l.map g)
  | [] => rfl
  | a :: l => datas_c (h a) (datas_mapF h l)
theorem dat_data (x : PyData) : (T.dat x).data? = some x := rfl
/-- one item of a list gets another value -/
theorem set_upd {α β : Type} [DecidableEq α] {l : List α} {f : α → β} {a : α} {x : β} (hn : l.Nodup) {i : Nat} (hi : l[i]? = some a) : (l.map f).set i x = l.map fun b => if b = a then x else f b := by
  induction l generalizing i with
  | nil => cases hi
  | cons c l ih =>
    obtain ⟨h1, h2⟩ := List.nodup_cons.mp hn
    cases i with
    | zero =>
      cases hi
      show x :: l.map f = (if a = a then x else f a) :: _
      rw [if_pos rfl]
      congr 1
      refine List.map_congr_left fun b hb => ?_
      rw [if_neg fun e => h1 (by rw [← e]; exact hb)]
    | succ i =>
      have hi : l[i]? = some a := by simpa using hi
      show f c :: (l.map f).set i x = (if c = a then x else f c) :: _
      rw [ih h2 hi, if_neg fun e => h1 (by rw [e]; exact List.mem_of_getElem? hi)]
theorem get_of_mem {α : Type} {l : List α} {a : α} (h : a ∈ l) : ∃ i : Nat, l[i]? = some a ∧ i < l.length := by
  obtain ⟨i, hi⟩ := List.mem_iff_getElem?.mp h
  exact ⟨i, hi, (List.getElem?_eq_some_iff.mp hi).1⟩
theorem getm {α β : Type} {f : α → β} {l : List α} {i : Nat} {a : α} (h : l[i]? = some a) : (l.map f)[i]? = some (f a) := by rw [List.getElem?_map, h]; rfl
theorem getmm {α : Type} {f : α → PyData} {l : List α} {i : Nat} {a : α} (h : l[i]? = some a) : ((l.map f).map T.dat)[i]? = some (.dat (f a)) := by rw [List.getElem?_map, List.getElem?_map, h]; rfl
theorem mem_mapk {α β : Type} {f : α → β} (inj : ∀ a b, f a = f b → a = b) {l : List α} {a : α} : f a ∈ l.map f ↔ a ∈ l := by
  refine ⟨fun m => ?_, fun m => List.mem_map.mpr ⟨a, m, rfl⟩⟩
  obtain ⟨b, hb, e⟩ := List.mem_map.mp m
  rw [← inj _ _ e]; exact hb
/-- a new key of a dict, an old one -/
theorem put_new {α β : Type} {kf : α → NestedKey} (inj : ∀ a b, kf a = kf b → a = b) {l : List α} {f : α → β} {a : α} {x : β} (h : a ∉ l) : putKs (l.map kf) (kf a) = (l ++ [a]).map kf ∧ putVs (l.map kf) (l.map f) (kf a) x = l.map f ++ [x] := by
  have hk : kf a ∉ l.map kf := fun m => h ((mem_mapk inj).mp m)
  unfold putKs putVs
  rw [if_neg hk, if_neg hk, List.map_append]
  exact ⟨rfl, rfl⟩
theorem posK_map {α : Type} {kf : α → NestedKey} (inj : ∀ a b, kf a = kf b → a = b) : ∀ {l : List α} {a : α}, a ∈ l → l[posK (l.map kf) (kf a)]? = some a
  | c :: l, a, h => by
    unfold posK
    rw [List.map_cons, List.findIdx_cons]
    by_cases e : kf c = kf a
    · rw [decide_eq_true e]
      rw [inj _ _ e]; rfl
    · rw [decide_eq_false e]
      rcases List.mem_cons.mp h with rfl | h
      · exact absurd rfl e
      · exact posK_map inj h
theorem put_old {α β : Type} [DecidableEq α] {kf : α → NestedKey} (inj : ∀ a b, kf a = kf b → a = b) {l : List α} {f : α → β} {a : α} {x : β} (hn : l.Nodup) (h : a ∈ l) : putKs (l.map kf) (kf a) = l.map kf ∧ putVs (l.map kf) (l.map f) (kf a) x = l.map fun b => if b = a then x else f b := by
  have hk : kf a ∈ l.map kf := (mem_mapk inj).mpr h
  unfold putKs putVs
  rw [if_pos hk, if_pos hk]
  exact ⟨rfl, set_upd hn (posK_map inj h)⟩
end DL

set_option maxRecDepth 100000
namespace R09
open PySem DL

/-! ### what the defs answer -/
abbrev tI (i : Int) : T := .dat (.int i)
abbrev tB (b : Bool) : T := .dat (.bool b)
abbrev tS (s : List Int) : T := .dat (encS s)
abbrev tSs (ss : List St) : T := .dat (.list (ss.map encS))
abbrev tBs (bs : List Bx) : T := .dat (.list (bs.map encB))
abbrev nSs (ss : List St) : T := lstT (ss.map encS)
abbrev nBs (bs : List Bx) : T := lstT (bs.map encB)
/-- the law's hand -/
structure WFh (cells : List Int) (a b c d : Int) : Prop where
  ne : cells ≠ []
  cs : ∀ x ∈ cells, 0 ≤ x
  a : 0 ≤ a
  b : 0 ≤ b
  c : 0 ≤ c
  d : 0 ≤ d
def handL (cells : List Int) (a b c d : Int) : List T := [.dat (.list (cells.map PyData.int)), tI a, tI b, tI c, tI d]
def HandOk (ts : List T) : Prop := ∃ cells a b c d, ts = handL cells a b c d ∧ WFh cells a b c d
abbrev tH (ts : List T) : T := .nd .lst ts
def S__law_cell : SpT := fun ts R => ∃ n, ts = [tI n] ∧ ∀ r : Int, 0 ≤ r → R (tI r) ts
def S__law_hand : SpT := fun ts R => ∃ ns, ts = [.scr ns] ∧ ns.length ≤ 63 ∧ ∀ h, HandOk h → R (tH h) ts
def S__law_draw : SpT := fun ts R => ∃ h m, ts = [tH h, tI m] ∧ HandOk h ∧ 1 ≤ m ∧ m < 1073741824 ∧ ∀ r h', HandOk h' → 0 ≤ r → r < m → R (tI r) [tH h', tI m]
/-- sizes -/
structure SzOk (z : List Int) : Prop where
  ne : z ≠ []
  len : z.length ≤ 8
  rng : ∀ s ∈ z, 1 ≤ s ∧ s ≤ 16
  prod : (z.map Int.toNat).prod ≤ 1024
def rngI (n : Int) : List Int := (List.range n.toNat).map fun i => ((i : Nat) : Int)
def every (z : List Int) : List St := rowsB (z.map rngI)
def S__law_rows : SpT := fun ts R => ∃ z, ts = [tS z] ∧ (∀ s ∈ z, 0 ≤ s ∧ s ≤ 16) ∧ z.length ≤ 8 ∧ (z.map Int.toNat).prod ≤ 1024 ∧ (∀ s ∈ z, 1 ≤ s) ∧ R (nSs (every z)) ts
def S__law_sizes : SpT := fun ts R => ∃ h, ts = [tH h] ∧ HandOk h ∧ ∀ z h', SzOk z → HandOk h' → R (tS z) [tH h']
def S__law_entry : SpT := fun ts R => ∃ h s, ts = [tH h, tI s] ∧ HandOk h ∧ 1 ≤ s ∧ s ≤ 16 ∧ ∀ e h', HandOk h' → e ≠ [] → e.Nodup → (∀ v ∈ e, 0 ≤ v ∧ v < s) → R (tS e) [tH h', tI s]
/-- boxes over these sizes -/
def BoxIn : List Int → Bx → Prop
  | [], [] => True
  | s :: z, e :: b => (e ≠ [] ∧ e.Nodup ∧ ∀ v ∈ e, 0 ≤ v ∧ v < s) ∧ BoxIn z b
  | _, _ => False
def RegOk (z : List Int) (bs : List Bx) : Prop := (∀ b ∈ bs, BoxIn z b) ∧ bs.length ≤ 65536
def S__law_region : SpT := fun ts R => ∃ h z, ts = [tH h, tS z] ∧ HandOk h ∧ SzOk z ∧ ∀ bs h', HandOk h' → RegOk z bs → R (nBs bs) [tH h', tS z]
def S__law_holds : SpT := fun ts R => ∃ bs s, ts = [tBs bs, tS s] ∧ (∀ b ∈ bs, b.length = s.length) ∧ s.length ≤ 8 ∧ R (tB (inAny bs s)) ts
def S__law_boxes (m : Nat) : SpT := fun ts R => ∃ (n : Nat) (ss : List St), n < m ∧ ts = [tSs ss, tI n] ∧ SS ss ∧ AllLen n ss ∧ ss.length ≤ 65536 ∧ R (nBs (lb n ss)) ts
abbrev tK (ss : List St) : T := .nd (.dic true (ss.map keyS)) (ss.map fun _ => tB true)
def S__law_known : SpT := fun ts R => ∃ ss, ts = [tSs ss] ∧ ss.Nodup ∧ ss.length ≤ 65536 ∧ R (tK ss) ts
/-- place k of some state changed leaves the states -/
def difF (z : List Int) (ss : List St) (k : Nat) : Bool := ss.any fun s => (rngI (z.getD k 0)).any fun v => !decide (s.set k v ∈ ss)
def S__law_differs : SpT := fun ts R => ∃ (z : List Int) (ss : List St) (k : Nat), ts = [tS z, tK ss, tSs ss, tI k] ∧ k < z.length ∧ (∀ s ∈ z, 0 ≤ s ∧ s ≤ 16) ∧ AllLen z.length ss ∧ z.length ≤ 8 ∧ R (tB (difF z ss k)) ts
def seenF (z : List Int) (ss : List St) : List Nat := (List.range z.length).filter (difF z ss)
abbrev nIs (l : List Int) : T := lstT (l.map PyData.int)
abbrev nNs (l : List Nat) : T := lstT (l.map fun i => PyData.int ((i : Nat) : Int))
def S__law_seen : SpT := fun ts R => ∃ z ss, ts = [tS z, tSs ss] ∧ ss.Nodup ∧ ss.length ≤ 65536 ∧ (∀ s ∈ z, 0 ≤ s ∧ s ≤ 16) ∧ AllLen z.length ss ∧ z.length ≤ 8 ∧ R (nNs (seenF z ss)) ts
def S__law_picked : SpT := fun ts R => ∃ h ss, ts = [tH h, tSs ss] ∧ HandOk h ∧ ss.length ≤ 65536 ∧ ∀ ps h', HandOk h' → ps.Sublist ss → R (nSs ps) [tH h', tSs ss]
def S__law_second : SpT := fun ts R => ∃ h z ss, ts = [tH h, tS z, tSs (every z), tK ss] ∧ HandOk h ∧ SzOk z ∧ ∀ near h', HandOk h' → SS near → (∀ s ∈ near, s ∈ every z) → R (nSs near) [tH h', tS z, tSs (every z), tK ss]
def S__law_mixed : SpT := fun ts R => ∃ h ss, ts = [tH h, tSs ss] ∧ HandOk h ∧ ss.length ≤ 4096 ∧ ∀ rows h', HandOk h' → (∀ s, s ∈ rows ↔ s ∈ ss) → rows.length ≤ 65536 → R (nSs rows) [tH h', tSs ss]
def S__law_is_number : SpT := fun ts R => ∃ i, ts = [tI i] ∧ R (tB true) ts
def S__law_are_numbers : SpT := fun ts R => ∃ s, ts = [tS s] ∧ R (tB true) ts
def S__law_are_states : SpT := fun ts R => ∃ ss, ts = [nSs ss] ∧ R (tB true) ts
def S__law_are_boxes : SpT := fun ts R => ∃ bs, ts = [nBs bs] ∧ R (tB true) ts
/-! the program's own -/
def S__in_box : SpT := fun ts R => ∃ b s, ts = [.dat (encB b), tS s] ∧ b.length = s.length ∧ R (tB (inB b s)) ts
def S_inside : SpT := fun ts R => ∃ bs s, ts = [tBs bs, tS s] ∧ (∀ b ∈ bs, b.length = s.length) ∧ R (tB (inAny bs s)) ts
def S_states_of : SpT := fun ts R => ∃ z bs, ts = [tBs bs] ∧ SzOk z ∧ RegOk z bs ∧ R (nSs (sd (bs.flatMap rowsB))) ts
def S__joined (m : Nat) : SpT := fun ts R => ∃ (n : Nat) (bs : List Bx) (ss : List St), n < m ∧ ts = [tBs bs] ∧ (∀ b ∈ bs, BoxNe n b) ∧ bs.length ≤ 65536 ∧ SS ss ∧ SameSet bs ss ∧ ss.length ≤ 65536 ∧ R (nBs (lb n ss)) ts
def S_boxes_of : SpT := fun ts R => ∃ (n : Nat) (z : List Int) (rows : List St), n ≤ 8 ∧ ts = [tS z, tSs rows] ∧ AllLen n rows ∧ rows.length ≤ 65536 ∧ R (nBs (lb n (sd rows))) ts
def isSeenF (s : Int) (ss : List St) (k : Nat) : Bool := (rngI s).any fun v => (rngI s).any fun u => ss.any fun x => decide (x[k]? = some v) && !decide (x.set k u ∈ ss)
def S__is_seen : SpT := fun ts R => ∃ (z : List Int) (bs : List Bx) (ss : List St) (k : Nat), ts = [tI (z.getD k 0), tBs bs, tI k] ∧ k < z.length ∧ SzOk z ∧ RegOk z bs ∧ SS ss ∧ SameSet bs ss ∧ R (tB (difF z ss k)) ts
def S_seen_by : SpT := fun ts R => ∃ z bs ss, ts = [tS z, tBs bs] ∧ SzOk z ∧ RegOk z bs ∧ SS ss ∧ SameSet bs ss ∧ R (nNs (seenF z ss)) ts
/-! the law's parts -/
def S__law_states_told : SpT := fun ts R => ∃ z bs ss, ts = [tBs bs, tSs ss] ∧ SzOk z ∧ RegOk z bs ∧ SS ss ∧ SameSet bs ss ∧ R (tB true) ts
def S__law_boxes_told : SpT := fun ts R => ∃ (n : Nat) (z : List Int) (rows : List St), ts = [tS z, tSs rows, tBs (lb n (sd rows))] ∧ n ≤ 8 ∧ AllLen n rows ∧ rows.length ≤ 65536 ∧ R (tB true) ts
def S__law_seen_told : SpT := fun ts R => ∃ z bs ss, ts = [tS z, tBs bs, .dat (.list ((seenF z ss).map fun i => PyData.int ((i : Nat) : Int)))] ∧ SzOk z ∧ RegOk z bs ∧ SS ss ∧ SameSet bs ss ∧ R (tB true) ts
def S__law_inside_told : SpT := fun ts R => ∃ h z bs ss, ts = [tH h, tBs bs, tSs (every z), tK ss] ∧ HandOk h ∧ SzOk z ∧ RegOk z bs ∧ SameSet bs ss ∧ ∀ h', HandOk h' → R (tB true) [tH h', tBs bs, tSs (every z), tK ss]
def S_law : SpT := fun ts R => ∃ ns, ts = [.scr ns] ∧ ns.length ≤ 63 ∧ R (tB true) ts
end R09

set_option maxRecDepth 100000
namespace R09
open PySem DL

theorem SS_flat {vs : List Int} {f : Int → List St} (hv : SI vs) (hf : ∀ v ∈ vs, SS (f v)) : SS (vs.flatMap fun v => (f v).map (v :: ·)) := by
  induction vs with
  | nil => exact List.Pairwise.nil
  | cons v vs ih =>
    obtain ⟨h1, h2⟩ := List.pairwise_cons.mp hv
    rw [List.flatMap_cons]
    refine List.pairwise_append.mpr ⟨?_, ih h2 fun w hw => hf w (List.mem_cons_of_mem _ hw), ?_⟩
    · exact List.Pairwise.map _ (fun a b hab => cons_lt.mpr (.inr ⟨rfl, hab⟩)) (hf v (List.mem_cons_self ..))
    · intro a ha b hb
      obtain ⟨q, _, rfl⟩ := List.mem_map.mp ha
      obtain ⟨w, hw, hb⟩ := List.mem_flatMap.mp hb
      obtain ⟨p, _, rfl⟩ := List.mem_map.mp hb
      exact cons_lt.mpr (.inl (h1 w hw))
theorem rngI_SI (n : Int) : SI (rngI n) := by
  unfold rngI
  exact List.Pairwise.map _ (fun a b hab => Int.ofNat_lt.mpr hab) List.pairwise_lt_range
theorem rowsB_SS : ∀ {b : Bx}, (∀ e ∈ b, SI e) → SS (rowsB b)
  | [], _ => List.pairwise_singleton _ _
  | e :: b, h => SS_flat (h e (List.mem_cons_self ..)) fun _ _ => rowsB_SS fun x hx => h x (List.mem_cons_of_mem _ hx)
theorem every_SS (z : List Int) : SS (every z) := by
  unfold every
  refine rowsB_SS fun e he => ?_
  obtain ⟨s, _, rfl⟩ := List.mem_map.mp he
  exact rngI_SI s
theorem SS_sub {l m : List St} (h : SS m) (s : l.Sublist m) : SS l := List.Pairwise.sublist s h
theorem nodup_sub_len {α : Type} [DecidableEq α] : ∀ {l m : List α}, l.Nodup → (∀ x ∈ l, x ∈ m) → l.length ≤ m.length
  | [], _, _, _ => Nat.zero_le _
  | x :: l, m, h, s => by
    obtain ⟨h1, h2⟩ := List.nodup_cons.mp h
    have hx : x ∈ m := s x (List.mem_cons_self ..)
    have ih := nodup_sub_len (l := l) (m := m.erase x) h2 fun y hy => by
      have : y ≠ x := fun e => h1 (e ▸ hy)
      exact (List.mem_erase_of_ne this).mpr (s y (List.mem_cons_of_mem _ hy))
    rw [List.length_erase_of_mem hx] at ih
    have : 0 < m.length := List.length_pos_of_mem hx
    rw [List.length_cons]
    omega
/-! ### boxes over sizes -/
theorem BoxIn.len : ∀ {z : List Int} {b : Bx}, BoxIn z b → b.length = z.length
  | [], [], _ => rfl
  | [], _ :: _, h => h.elim
  | _ :: _, [], h => h.elim
  | s :: z, e :: b, h => by rw [List.length_cons, List.length_cons, BoxIn.len h.2]
theorem BoxIn.entry : ∀ {z : List Int} {b : Bx}, BoxIn z b → ∀ e ∈ b, e ≠ [] ∧ e.Nodup
  | [], [], _ => fun _ h => nomatch h
  | [], _ :: _, h => h.elim
  | _ :: _, [], h => h.elim
  | s :: z, e :: b, h => fun x hx => by
    rcases List.mem_cons.mp hx with rfl | g
    · exact ⟨h.1.1, h.1.2.1⟩
    · exact BoxIn.entry h.2 x g
theorem BoxIn.ne {z : List Int} {b : Bx} (h : BoxIn z b) : BoxNe z.length b := ⟨h.len, fun e he => (h.entry e he).1⟩
theorem BoxIn.every : ∀ {z : List Int} {b : Bx} {s : St}, BoxIn z b → inB b s = true → s ∈ every z
  | [], [], [], _, _ => List.mem_singleton.mpr rfl
  | [], [], _ :: _, _, h => by cases h
  | [], _ :: _, _, h, _ => h.elim
  | _ :: _, [], _, h, _ => h.elim
  | _ :: _, _ :: _, [], _, h => by cases h
  | s :: z, e :: b, v :: t, h, hb => by
    simp only [inB, Bool.and_eq_true, decide_eq_true_eq] at hb
    refine List.mem_flatMap.mpr ⟨v, ?_, List.mem_map.mpr ⟨t, BoxIn.every h.2 hb.2, rfl⟩⟩
    have := h.1.2.2 v hb.1
    unfold rngI
    exact List.mem_map.mpr ⟨v.toNat, List.mem_range.mpr (by omega), by omega⟩
theorem RegOk.every {z : List Int} {bs : List Bx} {ss : List St} (h : RegOk z bs) (e : SameSet bs ss) : ∀ s ∈ ss, s ∈ every z := fun s hs => by
  obtain ⟨b, hb, q⟩ := inAny_iff.mp ((e s).mpr hs)
  exact (h.1 b hb).every q
theorem mem_every : ∀ {z : List Int} {s : St}, s ∈ every z → s.length = z.length ∧ ∀ i v, s[i]? = some v → 0 ≤ v ∧ v < z.getD i 0
  | [], s, h => by
    have : s = [] := List.mem_singleton.mp h
    subst this
    exact ⟨rfl, fun i v e => by cases e⟩
  | n :: z, s, h => by
    obtain ⟨v, hv, h⟩ := List.mem_flatMap.mp (show s ∈ (rngI n).flatMap fun v => (every z).map (v :: ·) from h)
    obtain ⟨t, ht, rfl⟩ := List.mem_map.mp h
    obtain ⟨h1, h2⟩ := mem_every ht
    refine ⟨by rw [List.length_cons, List.length_cons, h1], fun i u e => ?_⟩
    cases i with
    | zero =>
      cases e
      unfold rngI at hv
      obtain ⟨i, hi, rfl⟩ := List.mem_map.mp hv
      have := List.mem_range.mp hi
      show 0 ≤ (i : Int) ∧ (i : Int) < n
      omega
    | succ i => exact h2 i u (by simpa using e)
theorem same_sd {bs : List Bx} : SameSet bs (sd (bs.flatMap rowsB)) := fun s => by
  rw [mem_sd, inAny_iff, List.mem_flatMap]
  exact ⟨fun ⟨b, hb, e⟩ => ⟨b, hb, (mem_rowsB b s).mpr e⟩, fun ⟨b, hb, e⟩ => ⟨b, hb, (mem_rowsB b s).mp e⟩⟩
theorem sd_eq {bs : List Bx} {ss : List St} (h1 : SS ss) (h2 : SameSet bs ss) : sd (bs.flatMap rowsB) = ss :=
  (sd_SS _).unique h1 fun s => by rw [← same_sd s, h2 s]
theorem SameSet.allLen {n : Nat} {bs : List Bx} {ss : List St} (hn : ∀ b ∈ bs, b.length = n) (h : SameSet bs ss) : AllLen n ss := fun s hs => by
  obtain ⟨b, hb, e⟩ := inAny_iff.mp ((h s).mpr hs)
  rw [inB_len e, hn b hb]
theorem sd_SSeq {ss : List St} (h : SS ss) : sd ss = ss := (sd_SS ss).unique h fun _ => mem_sd

/-! ### one place left out -/
def ins : Nat → Int → St → St
  | 0, u, r => u :: r
  | _ + 1, u, [] => [u]
  | k + 1, u, x :: r => x :: ins k u r
theorem inB_ins : ∀ (k : Nat) (b : Bx) (r : St) (u : Int), k < b.length → inB b (ins k u r) = (decide (u ∈ b.getD k []) && inB (b.eraseIdx k) r)
  | 0, e :: b, r, u, _ => rfl
  | k + 1, e :: b, [], u, h => by
    show (decide (u ∈ e) && inB b []) = (_ && inB (e :: b.eraseIdx k) [])
    cases b with
    | nil => simp at h
    | cons x b => simp [inB]
  | k + 1, e :: b, x :: r, u, h => by
    have := inB_ins k b r u (by simpa using h)
    show (decide (x ∈ e) && inB b (ins k u r)) = (decide (u ∈ b.getD k []) && (decide (x ∈ e) && inB (b.eraseIdx k) r))
    rw [this]
    cases decide (x ∈ e) <;> cases decide (u ∈ b.getD k []) <;> rfl
theorem ins_set : ∀ (k : Nat) (u v : Int) (r : St), k ≤ r.length → (ins k u r).set k v = ins k v r
  | 0, u, v, r, _ => rfl
  | k + 1, u, v, [], h => by simp at h
  | k + 1, u, v, x :: r, h => by
    show x :: (ins k u r).set k v = x :: ins k v r
    rw [ins_set k u v r (by simpa using h)]
theorem ins_erase : ∀ (k : Nat) (s : St), k < s.length → ins k (s.getD k 0) (s.eraseIdx k) = s
  | 0, x :: s, _ => rfl
  | k + 1, x :: s, h => by
    show x :: ins k (s.getD k 0) (s.eraseIdx k) = x :: s
    rw [ins_erase k s (by simpa using h)]
theorem ins_length : ∀ (k : Nat) (u : Int) (r : St), (ins k u r).length = r.length + 1
  | 0, _, _ => rfl
  | _ + 1, _, [] => rfl
  | k + 1, u, x :: r => by
    show (ins k u r).length + 1 = r.length + 1 + 1
    rw [ins_length k u r]
theorem ins_get : ∀ (k : Nat) (u : Int) (r : St), k ≤ r.length → (ins k u r).getD k 0 = u
  | 0, _, _, _ => rfl
  | k + 1, u, [], h => by simp at h
  | k + 1, u, x :: r, h => by
    show (ins k u r).getD k 0 = u
    exact ins_get k u r (by simpa using h)
/-- the boxes that take a value at a place, without this place -/
def sls (k : Nat) (bs : List Bx) (v : Int) : List Bx := (bs.filter fun b => decide (v ∈ b.getD k [])).map fun b => b.eraseIdx k
theorem inAny_sls {k : Nat} {bs : List Bx} {v : Int} {r : St} (h : ∀ b ∈ bs, k < b.length) : inAny (sls k bs v) r = inAny bs (ins k v r) := by
  rw [Bool.eq_iff_iff, inAny_iff, inAny_iff]
  constructor
  · rintro ⟨t, ht, e⟩
    obtain ⟨b, hb, rfl⟩ := List.mem_map.mp ht
    obtain ⟨h1, h2⟩ := List.mem_filter.mp hb
    exact ⟨b, h1, by rw [inB_ins k b r v (h b h1), h2, e]; rfl⟩
  · rintro ⟨b, hb, e⟩
    rw [inB_ins k b r v (h b hb), Bool.and_eq_true] at e
    exact ⟨_, List.mem_map.mpr ⟨b, List.mem_filter.mpr ⟨hb, e.1⟩, rfl⟩, e.2⟩
theorem eraseIdx_ne {n k : Nat} {b : Bx} (h : BoxNe (n + 1) b) (hk : k < n + 1) : BoxNe n (b.eraseIdx k) :=
  ⟨by rw [List.length_eraseIdx, if_pos (by rw [h.1]; exact hk), h.1]; rfl, fun e he => h.2 e (List.mem_of_mem_eraseIdx he)⟩
theorem sls_ne {n k : Nat} {bs : List Bx} (h : ∀ b ∈ bs, BoxNe (n + 1) b) (hk : k < n + 1) (v : Int) : ∀ t ∈ sls k bs v, BoxNe n t := fun t ht => by
  obtain ⟨b, hb, rfl⟩ := List.mem_map.mp ht
  exact eraseIdx_ne (h b (List.mem_filter.mp hb).1) hk
/-- a set of boxes as its own boxes -/
def jn (n : Nat) (rs : List Bx) : List Bx := lb n (sd (rs.flatMap rowsB))
theorem jn_eq {n : Nat} {rs qs : List Bx} (hr : ∀ b ∈ rs, b.length = n) (hq : ∀ b ∈ qs, b.length = n) : jn n rs = jn n qs ↔ ∀ s, inAny rs s = inAny qs s := by
  constructor
  · intro e s
    have := lb_inj (sd_SS _) (sd_SS _) (same_sd.allLen hr) (same_sd.allLen hq) e
    rw [Bool.eq_iff_iff, same_sd s, same_sd s, this]
  · intro h
    unfold jn
    congr 1
    refine (sd_SS _).unique (sd_SS _) fun s => ?_
    rw [← same_sd s, ← same_sd s, h s]
theorem dd_two {α : Type} [DecidableEq α] {l : List α} : 1 < (dd l).length ↔ ∃ a ∈ l, ∃ b ∈ l, a ≠ b := by
  constructor
  · intro h
    match e : dd l, h with
    | [], h => simp at h
    | [_], h => simp at h
    | a :: b :: t, _ =>
      have hn := nodup_dd l
      rw [e] at hn
      refine ⟨a, mem_dd.mp (by rw [e]; simp), b, mem_dd.mp (by rw [e]; simp), fun q => ?_⟩
      subst q
      simp at hn
  · rintro ⟨a, ha, b, hb, hne⟩
    have h2 : ([a, b] : List α).length ≤ (dd l).length := nodup_sub_len (by simp [hne]) fun x hx => by
      rcases List.mem_cons.mp hx with rfl | hx
      · exact mem_dd.mpr ha
      · rw [List.mem_singleton.mp hx]; exact mem_dd.mpr hb
    exact h2
theorem seen_iff {z : List Int} {bs : List Bx} {ss : List St} {k n : Nat} (hz : z.length = n + 1) (hk : k < z.length) (hb : ∀ b ∈ bs, BoxIn z b) (h : SameSet bs ss) :
    decide (1 < (dd ((dd ((rngI (z.getD k 0)).map (sls k bs))).map (jn n))).length) = difF z ss k := by
  have hl : ∀ b ∈ bs, k < b.length := fun b h => by rw [(hb b h).len]; exact hk
  have hn : ∀ v, ∀ t ∈ sls k bs v, t.length = n := fun v t ht => (sls_ne (fun b q => by have := (hb b q).ne; rw [hz] at this; exact this) (by omega) v t ht).1
  rw [Bool.eq_iff_iff, decide_eq_true_eq, dd_two]
  unfold difF
  rw [List.any_eq_true]
  have sep : ∀ u v r, u ∈ rngI (z.getD k 0) → v ∈ rngI (z.getD k 0) → inAny (sls k bs u) r = true → inAny (sls k bs v) r = false → ∃ s ∈ ss, ((rngI (z.getD k 0)).any fun v => !decide (s.set k v ∈ ss)) = true := by
    intro u v r hu hv h1 h2
    have hr : r.length = n := by
      obtain ⟨t, ht, e⟩ := inAny_iff.mp h1
      rw [inB_len e, hn u t ht]
    rw [inAny_sls hl] at h1 h2
    refine ⟨ins k u r, (h _).mp h1, List.any_eq_true.mpr ⟨v, hv, ?_⟩⟩
    rw [ins_set k u v r (by omega), Bool.not_eq_true', decide_eq_false_iff_not, ← h, h2]
    exact Bool.false_ne_true
  constructor
  · rintro ⟨a, ha, b, hb', hne⟩
    obtain ⟨x, hx, rfl⟩ := List.mem_map.mp ha
    obtain ⟨y, hy, rfl⟩ := List.mem_map.mp hb'
    obtain ⟨u, hu, rfl⟩ := List.mem_map.mp (mem_dd.mp hx)
    obtain ⟨v, hv, rfl⟩ := List.mem_map.mp (mem_dd.mp hy)
    have : ¬ ∀ s, inAny (sls k bs u) s = inAny (sls k bs v) s := fun q => hne ((jn_eq (hn u) (hn v)).mpr q)
    obtain ⟨r, hr⟩ := Classical.not_forall.mp this
    cases h1 : inAny (sls k bs u) r with
    | true =>
      rw [h1] at hr
      exact sep u v r hu hv h1 (by cases h2 : inAny (sls k bs v) r <;> simp_all)
    | false =>
      rw [h1] at hr
      exact sep v u r hv hu (by cases h2 : inAny (sls k bs v) r <;> simp_all) h1
  · rintro ⟨s, hs, h2⟩
    obtain ⟨v, hv, h2⟩ := List.any_eq_true.mp h2
    rw [Bool.not_eq_true', decide_eq_false_iff_not] at h2
    obtain ⟨b, hb1, hb2⟩ := inAny_iff.mp ((h s).mpr hs)
    have hev := mem_every ((hb b hb1).every hb2)
    have hks : k < s.length := by rw [hev.1]; exact hk
    have hu : s.getD k 0 ∈ rngI (z.getD k 0) := by
      have := hev.2 k (s.getD k 0) (by rw [List.getD_eq_getElem?_getD, List.getElem?_eq_getElem hks]; rfl)
      unfold rngI
      exact List.mem_map.mpr ⟨(s.getD k 0).toNat, List.mem_range.mpr (by omega), by omega⟩
    refine ⟨jn n (sls k bs (s.getD k 0)), List.mem_map.mpr ⟨_, mem_dd.mpr (List.mem_map.mpr ⟨_, hu, rfl⟩), rfl⟩, jn n (sls k bs v), List.mem_map.mpr ⟨_, mem_dd.mpr (List.mem_map.mpr ⟨_, hv, rfl⟩), rfl⟩, fun q => ?_⟩
    have q := (jn_eq (hn _) (hn _)).mp q (s.eraseIdx k)
    have he : (s.eraseIdx k).length = n := by rw [List.length_eraseIdx, if_pos hks, hev.1, hz]; rfl
    rw [inAny_sls hl, inAny_sls hl, ins_erase k s hks, (h s).mpr hs, ← ins_set k (s.getD k 0) v _ (by omega), ins_erase k s hks] at q
    exact h2 ((h _).mp q.symm)
/-! ### the law's own boxes stay within the sizes -/
theorem lb_in {z : List Int} {ss : List St} (h : ∀ s ∈ ss, s ∈ every z) : ∀ b ∈ lb z.length ss, BoxIn z b := by
  have key : ∀ (z : List Int) (b : Bx), b.length = z.length → (∀ e ∈ b, e ≠ [] ∧ e.Nodup) → (∀ (i : Nat) (e : List Int), b[i]? = some e → ∀ v ∈ e, 0 ≤ v ∧ v < z.getD i 0) → BoxIn z b := by
    intro z
    induction z with
    | nil => intro b h1 _ _; cases b with
      | nil => exact True.intro
      | cons e b => cases h1
    | cons s z ih => intro b h1 h2 h3; cases b with
      | nil => cases h1
      | cons e b => exact ⟨⟨(h2 e (List.mem_cons_self ..)).1, (h2 e (List.mem_cons_self ..)).2, fun v hv => h3 0 e rfl v hv⟩, ih b (by simpa using h1) (fun x hx => h2 x (List.mem_cons_of_mem _ hx)) fun i x hx v hv => h3 (i + 1) x (by simpa using hx) v hv⟩
  intro b hb
  obtain ⟨h1, h2⟩ := lb_ok _ _ b hb
  refine key z b h1 h2 fun i e he v hv => ?_
  obtain ⟨s, hs, es⟩ := lb_mem _ _ b hb i e he v hv
  exact (mem_every (h s hs)).2 i v es
theorem lb_reg {z : List Int} {ss : List St} (h : ∀ s ∈ ss, s ∈ every z) (hl : ss.length ≤ 65536) : RegOk z (lb z.length ss) := ⟨lb_in h, Nat.le_trans (lb_length _ _) hl⟩
theorem lb_same {n : Nat} {ss : List St} (hs : SS ss) (hl : AllLen n ss) : SameSet (lb n ss) ss := fun s => lb_sem n ss hs hl s
end R09

set_option maxRecDepth 100000
set_option maxHeartbeats 0
namespace R09
open PySem PySem.Spec PyProof.Rows L2
def top (i : Nat) : Stmt := PySem.Challenge.pw_runcourt_k09_regions.main.body.getD i (.Pass ⟨0, 0, 0, 0⟩)
abbrev s_boxes_of : Stmt := top 1
abbrev s_states_of : Stmt := top 2
abbrev s_inside : Stmt := top 3
abbrev s_seen_by : Stmt := top 4
abbrev s__in_box : Stmt := top 5
abbrev s__joined : Stmt := top 6
abbrev s__is_seen : Stmt := top 7
abbrev s__law_cell : Stmt := top 9
abbrev s__law_hand : Stmt := top 10
abbrev s__law_draw : Stmt := top 11
abbrev s__law_rows : Stmt := top 12
abbrev s__law_sizes : Stmt := top 13
abbrev s__law_entry : Stmt := top 14
abbrev s__law_region : Stmt := top 15
abbrev s__law_holds : Stmt := top 16
abbrev s__law_boxes : Stmt := top 17
abbrev s__law_differs : Stmt := top 18
abbrev s__law_known : Stmt := top 19
abbrev s__law_seen : Stmt := top 20
abbrev s__law_picked : Stmt := top 21
abbrev s__law_second : Stmt := top 22
abbrev s__law_mixed : Stmt := top 23
abbrev s__law_is_number : Stmt := top 24
abbrev s__law_are_numbers : Stmt := top 25
abbrev s__law_are_states : Stmt := top 26
abbrev s__law_are_boxes : Stmt := top 27
abbrev s__law_states_told : Stmt := top 28
abbrev s__law_boxes_told : Stmt := top 29
abbrev s__law_seen_told : Stmt := top 30
abbrev s__law_inside_told : Stmt := top 31
abbrev s_law : Stmt := top 32
abbrev FnP (K : PySem.W.Frag) (x q : Str) (st : Stmt) (f : Addr) (fd : FuncData) : Prop := FunD K x q (defArgs st) (defBody st) (defScope st) [] [] f fd
end R09
namespace R09
open PySem PySem.Spec PyProof.Rows L2 DL
abbrev N_boxes_of : List Str := ["sizes", "states", "state", "value"]
theorem sc_boxes_of : FnScope N_boxes_of ["sizes", "states"] (defScope s_boxes_of) := ⟨rfl, rfl, rfl, by decide +kernel, rfl, by decide +kernel, by decide +kernel⟩
def w_boxes_of (m : Nat) : WS := wSeq (wRet (eCall (S__joined m) [none] (cCons (eF (eLc [2] (iFz 1) (wSet 2) (fun en Q => Q true en) (e1 fTup (eLc [3] (iH (uVar 2)) (wSet 3) (fun en Q => Q true en) (eN (nTup (auCons (uVar 3) (auNil)))))))) (cNil))))
    wNil
abbrev N_states_of : List Str := ["boxes", "found", "box", "rows", "entry", "row", "value"]
theorem sc_states_of : FnScope N_states_of ["boxes"] (defScope s_states_of) := ⟨rfl, rfl, rfl, by decide +kernel, rfl, by decide +kernel, by decide +kernel⟩
@[irreducible] def w_states_of_j1 : WS := wSeq (wForN 3 (wSet 5) (wSeq (wSub (eU (uC (.bool true))) (pVar 1) (uVar 5))
    (wNil)))
    (wNil)
@[irreducible] def w_states_of_2 : WS := wSeq (wRet (eN (n1 fSort (uVar 1))))
    wNil
@[irreducible] def w_states_of_1 : WS := wSeq (wForN 0 (wSet 2) (wSeq (wAsg 3 (eLst (aCons (eN (nTup (auNil))) (aNil))))
    (wSeq (wForN 2 (wSet 4) (wSeq (wAsg 3 (eLc2 [5, 6] [6] (iH (uVar 3)) (wSet 5) (fun en Q => Q true en) (iU (uVar 4)) (wSet 6) (fun en Q => Q true en) (eN (n2 fAdd (uVar 5) (uN (nTup (auCons (uVar 6) (auNil))))))))
    (wNil)))
    (w_states_of_j1))))
    w_states_of_2
def w_states_of : WS := wSeq (wAsg 1 (eN (nDic true)))
    w_states_of_1
abbrev N_inside : List Str := ["boxes", "state", "box"]
theorem sc_inside : FnScope N_inside ["boxes", "state"] (defScope s_inside) := ⟨rfl, rfl, rfl, by decide +kernel, rfl, by decide +kernel, by decide +kernel⟩
@[irreducible] def w_inside_1 : WS := wSeq (wRet (eU (uC (.bool false))))
    wNil
def w_inside : WS := wSeq (wForN 0 (wSet 2) (wSeq (wIf (tV (eCall S__in_box [none, none] (cNameF 2 (cNameF 1 (cNil))))) (wSeq (wRet (eU (uC (.bool true))))
    (wNil)) (wNil))
    (wNil)))
    w_inside_1
abbrev N_seen_by : List Str := ["sizes", "boxes", "found", "place", "size"]
theorem sc_seen_by : FnScope N_seen_by ["sizes", "boxes"] (defScope s_seen_by) := ⟨rfl, rfl, rfl, by decide +kernel, rfl, by decide +kernel, by decide +kernel⟩
@[irreducible] def w_seen_by_2 : WS := wSeq (wRet (eName 2))
    wNil
@[irreducible] def w_seen_by_1 : WS := wSeq (wFor (iEn (uVar 0)) (wTupG 2 (wCons (wSet 3) (wCons (wSet 4) (fun xs en Q => xs = [] ∧ Q en)))) (wSeq (wIf (tV (eCall S__is_seen [none, none, none] (cNameF 4 (cNameF 1 (cNameF 3 (cNil)))))) (wSeq (wAppN 2 (eName 3))
    (wNil)) (wNil))
    (wNil)))
    w_seen_by_2
def w_seen_by : WS := wSeq (wAsg 2 (eLst (aNil)))
    w_seen_by_1
abbrev N__in_box : List Str := ["box", "state", "entry", "value"]
theorem sc__in_box : FnScope N__in_box ["box", "state"] (defScope s__in_box) := ⟨rfl, rfl, rfl, by decide +kernel, rfl, by decide +kernel, by decide +kernel⟩
@[irreducible] def w__in_box_1 : WS := wSeq (wRet (eU (uC (.bool true))))
    wNil
def w__in_box : WS := wSeq (wFor (iZ (uVar 0) (uVar 1)) (wTupG 2 (wCons (wSet 2) (wCons (wSet 3) (fun xs en Q => xs = [] ∧ Q en)))) (wSeq (wIf (tV (ue2 (fIn true) (uVar 3) (uVar 2))) (wSeq (wRet (eU (uC (.bool false))))
    (wNil)) (wNil))
    (wNil)))
    w__in_box_1
abbrev N__joined : List Str := ["boxes", "rests", "box", "value", "known", "groups", "key", "rest"]
theorem sc__joined : FnScope N__joined ["boxes"] (defScope s__joined) := ⟨rfl, rfl, rfl, by decide +kernel, rfl, by decide +kernel, by decide +kernel⟩
@[irreducible] def w__joined_j1 (m : Nat) : WS := wSeq (wSub (eU (uC (.bool true))) (pIx (pVar 1) (uVar 3)) (uN (nSl (uVar 2) (oSome (uC (.int 1))) (oNone))))
    (wNil)
@[irreducible] def w__joined_j2 (m : Nat) : WS := wSeq (wApp (pIx (pVar 5) (uVar 7)) (nU (uVar 3)))
    (wNil)
@[irreducible] def w__joined_j3 (m : Nat) : WS := wSeq (wAsg 7 (eU (uIx (uVar 4) (uVar 6))))
    (wSeq (wIf (tV (ue2 (fIn true) (uVar 7) (uVar 5))) (wSeq (wSub (eLst (aNil)) (pVar 5) (uVar 7))
    (wNil)) (wNil))
    (w__joined_j2 m))
@[irreducible] def w__joined_7 (m : Nat) : WS := wSeq (wRet (eLc2 [7, 2] [2] (iH (uVar 5)) (wSet 7) (fun en Q => Q true en) (iU (uVar 7)) (wSet 2) (fun en Q => Q true en) (eN (n2 fAdd (uN (nTup (auCons (uN (n1 fTup (uIx (uVar 5) (uVar 7)))) (auNil)))) (uVar 2)))))
    wNil
@[irreducible] def w__joined_6 (m : Nat) : WS := wSeq (wFor (iU (uN (n1 fSort (uVar 1)))) (wSet 3) (wSeq (wAsg 6 (eN (n1 fTup (uIx (uVar 1) (uVar 3)))))
    (wSeq (wIf (tV (ue2 (fIn true) (uVar 6) (uVar 4))) (wSeq (wSub (e1 fTup (eCall (S__joined m) [none] (cCons (eF (eN (n1 fLst (uVar 6)))) (cNil)))) (pVar 4) (uVar 6))
    (wNil)) (wNil))
    (w__joined_j3 m))))
    (w__joined_7 m)
@[irreducible] def w__joined_5 (m : Nat) : WS := wSeq (wAsg 5 (eN (nDic true)))
    (w__joined_6 m)
@[irreducible] def w__joined_4 (m : Nat) : WS := wSeq (wAsg 4 (eN (nDic true)))
    (w__joined_5 m)
@[irreducible] def w__joined_3 (m : Nat) : WS := wSeq (wForN 0 (wSet 2) (wSeq (wFor (iU (uIx (uVar 2) (uC (.int 0)))) (wSet 3) (wSeq (wIf (tV (ue2 (fIn true) (uVar 3) (uVar 1))) (wSeq (wSub (eN (nDic true)) (pVar 1) (uVar 3))
    (wNil)) (wNil))
    (w__joined_j1 m)))
    (wNil)))
    (w__joined_4 m)
@[irreducible] def w__joined_2 (m : Nat) : WS := wSeq (wAsg 1 (eN (nDic false)))
    (w__joined_3 m)
@[irreducible] def w__joined_1 (m : Nat) : WS := wSeq (wIf (tV (ue2 fEq (uN (n1 fLen (uIx (uVar 0) (uC (.int 0))))) (uC (.int 0)))) (wSeq (wRet (eLst (aCons (eN (nTup (auNil))) (aNil))))
    (wNil)) (wNil))
    (w__joined_2 m)
def w__joined (m : Nat) : WS := wSeq (wIf (tV (ue2 fEq (uN (n1 fLen (uVar 0))) (uC (.int 0)))) (wSeq (wRet (eLst (aNil)))
    (wNil)) (wNil))
    (w__joined_1 m)
abbrev N__is_seen : List Str := ["size", "boxes", "place", "slices", "value", "rests", "unlike", "box"]
theorem sc__is_seen : FnScope N__is_seen ["size", "boxes", "place"] (defScope s__is_seen) := ⟨rfl, rfl, rfl, by decide +kernel, rfl, by decide +kernel, by decide +kernel⟩
@[irreducible] def w__is_seen_4 (m : Nat) : WS := wSeq (wRet (eN (n2 (fI0 fun i j => .bool (decide (j < i))) (uN (n1 fLen (uVar 6))) (uC (.int 1)))))
    wNil
@[irreducible] def w__is_seen_3 (m : Nat) : WS := wSeq (wForN 3 (wSet 5) (wSeq (wSubN (eU (uC (.bool true))) 6 (e1 fTup (eCall (S__joined m) [none] (cCons (eF (eN (n1 fLst (uVar 5)))) (cNil)))))
    (wNil)))
    (w__is_seen_4 m)
@[irreducible] def w__is_seen_2 (m : Nat) : WS := wSeq (wAsg 6 (eN (nDic true)))
    (w__is_seen_3 m)
@[irreducible] def w__is_seen_1 (m : Nat) : WS := wSeq (wFor (iR1 (eName 0)) (wSet 4) (wSeq (wAsg 5 (eLc [7] (iH (uVar 1)) (wSet 7) (tV (ue2 (fIn false) (uVar 4) (uIx (uVar 7) (uVar 2)))) (eN (n2 fAdd (uN (nSl (uVar 7) (oNone) (oSome (uVar 2)))) (uN (nSl (uVar 7) (oSome (uN (n2 fAdd (uVar 2) (uC (.int 1))))) (oNone)))))))
    (wSeq (wSub (eU (uC (.bool true))) (pVar 3) (uN (n1 fTup (uVar 5))))
    (wNil))))
    (w__is_seen_2 m)
def w__is_seen (m : Nat) : WS := wSeq (wAsg 3 (eN (nDic true)))
    (w__is_seen_1 m)
abbrev N__law_cell : List Str := ["number"]
theorem sc__law_cell : FnScope N__law_cell ["number"] (defScope s__law_cell) := ⟨rfl, rfl, rfl, by decide +kernel, rfl, by decide +kernel, by decide +kernel⟩
@[irreducible] def w__law_cell_1 : WS := wSeq (wRet (eN (n2 (fI (fun _ j => 0 < j) fun i j => .int (i % j)) (uN (n1 fInt (uVar 0))) (uN (n2 (fI CPowB fun i j => .int (i ^ j.toNat)) (uN (n2 (fI CPowB fun i j => .int (i ^ j.toNat)) (uC (.int 10)) (uC (.int 60)))) (uC (.int 4)))))))
    wNil
def w__law_cell : WS := wSeq (wIf (tV (ue2 (fI0 fun i j => .bool (decide (i < j))) (uVar 0) (uC (.int 0)))) (wSeq (wAsg 0 (eN (n2 (fI0 fun i j => .int (i - j)) (uC (.int 1)) (uVar 0))))
    (wNil)) (wNil))
    w__law_cell_1
abbrev N__law_hand : List Str := ["script", "cells", "number"]
theorem sc__law_hand : FnScope N__law_hand ["script"] (defScope s__law_hand) := ⟨rfl, rfl, rfl, by decide +kernel, rfl, by decide +kernel, by decide +kernel⟩
@[irreducible] def w__law_hand_2 : WS := wSeq (wFrz 1 (wRet (eLst (aCons (eName 1) (aCons (eU (uC (.int 0))) (aCons (eU (uC (.int 0))) (aCons (eU (uC (.int 0))) (aCons (eU (uC (.int 62))) (aNil)))))))))
    wNil
@[irreducible] def w__law_hand_1 : WS := wSeq (wIf (tV (ue2 fEq (uVar 1) (uN (nLst (auNil))))) (wSeq (wAsg 1 (eLst (aCons (eU (uC (.int 0))) (aNil))))
    (wNil)) (wNil))
    w__law_hand_2
def w__law_hand : WS := wSeq (wAsg 1 (eLc [2] (iU (uN (nSl (uVar 0) (oNone) (oSome (uC (.int 63)))))) (wSet 2) (fun en Q => Q true en) (eCall S__law_cell [none] (cNameF 2 (cNil)))))
    w__law_hand_1
abbrev N__law_draw : List Str := ["hand", "many", "cells", "cell", "digit", "mixed"]
theorem sc__law_draw : FnScope N__law_draw ["hand", "many"] (defScope s__law_draw) := ⟨rfl, rfl, rfl, by decide +kernel, rfl, by decide +kernel, by decide +kernel⟩
@[irreducible] def w__law_draw_j1 : WS := wSeq (wRet (eName 4))
    (wNil)
@[irreducible] def w__law_draw_4 : WS := wSeq (wRet (eN (n2 (fI (fun _ j => 0 < j) fun i j => .int (i % j)) (uN (n1 fInt (uN (n2 (fI CDiv fun i j => .int (i / j)) (uVar 5) (uC (.int 16)))))) (uVar 1))))
    wNil
@[irreducible] def w__law_draw_3 : WS := wSeq (wAsg 5 (eN (n2 (fI (fun _ j => 0 < j) fun i j => .int (i % j)) (uN (n1 fInt (uN (n2 fAdd (uN (n2 fMul (uIx (uVar 0) (uC (.int 4))) (uC (.int 69621)))) (uC (.int 12345)))))) (uC (.int 2147483629)))))
    w__law_draw_4
@[irreducible] def w__law_draw_2 : WS := wSeq (wIf (tV (ue2 (fI0 fun i j => .bool (decide (j < i))) (uIx (uVar 0) (uC (.int 3))) (uC (.int 0)))) (wSeq (wAsg 4 (eN (n2 (fI (fun _ j => 0 < j) fun i j => .int (i % j)) (uN (n1 fInt (uIx (uVar 0) (uC (.int 2))))) (uVar 1))))
    (wSeq (wSub (eN (n2 (fI CDiv fun i j => .int (i / j)) (uIx (uVar 0) (uC (.int 2))) (uVar 1))) (pVar 0) (uC (.int 2)))
    (wSeq (wSub (eN (n2 (fI0 fun i j => .int (i - j)) (uIx (uVar 0) (uC (.int 3))) (uC (.int 1)))) (pVar 0) (uC (.int 3)))
    (wSeq (wIf (tV (ue2 fEq (uIx (uVar 0) (uC (.int 2))) (uC (.int 0)))) (wSeq (wSub (eU (uC (.int 0))) (pVar 0) (uC (.int 3)))
    (wNil)) (wNil))
    (w__law_draw_j1))))) (wNil))
    w__law_draw_3
@[irreducible] def w__law_draw_1 : WS := wSeq (wIf (tV (ue2 fEq (uIx (uVar 0) (uC (.int 3))) (uC (.int 0)))) (wSeq (wAsg 3 (eU (uIx (uVar 2) (uN (n2 (fI (fun _ j => 0 < j) fun i j => .int (i % j)) (uN (n1 fInt (uIx (uVar 0) (uC (.int 1))))) (uN (n1 fLen (uVar 2))))))))
    (wSeq (wSub (eN (n2 fAdd (uIx (uVar 0) (uC (.int 1))) (uC (.int 1)))) (pVar 0) (uC (.int 1)))
    (wSeq (wIf (tAndD (tV (ue2 (fI0 fun i j => .bool (decide (i ≤ j))) (uIx (uVar 0) (uC (.int 1))) (uN (n1 fLen (uVar 2))))) (tV (ue2 (fI0 fun i j => .bool (decide (j ≤ i))) (uVar 3) (uN (n2 (fI CPowB fun i j => .int (i ^ j.toNat)) (uC (.int 10)) (uC (.int 18))))))) (wSeq (wSub (eName 3) (pVar 0) (uC (.int 2)))
    (wSeq (wSub (eU (uC (.int 60))) (pVar 0) (uC (.int 3)))
    (wNil))) (wSeq (wSub (eN (n2 (fI (fun _ j => 0 < j) fun i j => .int (i % j)) (uN (n1 fInt (uN (n2 fAdd (uN (n2 fAdd (uN (n2 fMul (uIx (uVar 0) (uC (.int 4))) (uC (.int 48271)))) (uN (n2 (fI (fun _ j => 0 < j) fun i j => .int (i % j)) (uN (n1 fInt (uVar 3))) (uC (.int 1000003)))))) (uIx (uVar 0) (uC (.int 1))))))) (uC (.int 2147483647)))) (pVar 0) (uC (.int 4)))
    (wNil)))
    (wNil)))) (wNil))
    w__law_draw_2
def w__law_draw : WS := wSeq (wAsg 2 (eU (uIx (uVar 0) (uC (.int 0)))))
    w__law_draw_1
abbrev N__law_rows : List Str := ["sizes", "rows", "size", "longer", "row", "value"]
theorem sc__law_rows : FnScope N__law_rows ["sizes"] (defScope s__law_rows) := ⟨rfl, rfl, rfl, by decide +kernel, rfl, by decide +kernel, by decide +kernel⟩
@[irreducible] def w__law_rows_j1 : WS := wSeq (wAsg 1 (eName 3))
    (wNil)
@[irreducible] def w__law_rows_2 : WS := wSeq (wRet (eName 1))
    wNil
@[irreducible] def w__law_rows_1 : WS := wSeq (wForN 0 (wSet 2) (wSeq (wAsg 3 (eLst (aNil)))
    (wSeq (wForN 1 (wSet 4) (wSeq (wFor (iR1 (eName 2)) (wSet 5) (wSeq (wAppN 3 (eN (n2 fAdd (uVar 4) (uN (nTup (auCons (uVar 5) (auNil)))))))
    (wNil)))
    (wNil)))
    (w__law_rows_j1))))
    w__law_rows_2
def w__law_rows : WS := wSeq (wAsg 1 (eLst (aCons (eN (nTup (auNil))) (aNil))))
    w__law_rows_1
abbrev N__law_sizes : List Str := ["hand", "large", "sizes", "product", "k", "size"]
theorem sc__law_sizes : FnScope N__law_sizes ["hand"] (defScope s__law_sizes) := ⟨rfl, rfl, rfl, by decide +kernel, rfl, by decide +kernel, by decide +kernel⟩
@[irreducible] def w__law_sizes_j1 : WS := wSeq (wAsg 3 (eN (n2 fMul (uVar 3) (uVar 5))))
    (wSeq (wAppN 2 (eName 5))
    (wNil))
@[irreducible] def w__law_sizes_4 : WS := wSeq (wRet (eN (n1 fTup (uVar 2))))
    wNil
@[irreducible] def w__law_sizes_3 : WS := wSeq (wFor (iR1 (e2 fAdd (eU (uC (.int 1))) (eCall S__law_draw [some 0, none] (cName 0 (cCons (eF (eIf (tV (eName 1)) (eU (uC (.int 8))) (eU (uC (.int 4))))) (cNil)))))) (wSet 4) (wSeq (wAsg 5 (e2 fAdd (eU (uC (.int 2))) (eCall S__law_draw [some 0, none] (cName 0 (cCons (eF (eIf (tV (eName 1)) (eU (uC (.int 15))) (eU (uC (.int 3))))) (cNil))))))
    (wSeq (wIf (tOrD (tV (eu2 fEq (eCall S__law_draw [some 0, none] (cName 0 (cCons (eF (eU (uC (.int 6)))) (cNil)))) (uC (.int 1)))) (tV (e2 (fI0 fun i j => .bool (decide (j < i))) (eN (n2 fMul (uVar 3) (uVar 5))) (eIf (tV (eName 1)) (eU (uC (.int 1024))) (eU (uC (.int 64))))))) (wSeq (wAsg 5 (eU (uC (.int 1))))
    (wNil)) (wNil))
    (w__law_sizes_j1))))
    w__law_sizes_4
@[irreducible] def w__law_sizes_2 : WS := wSeq (wAsg 3 (eU (uC (.int 1))))
    w__law_sizes_3
@[irreducible] def w__law_sizes_1 : WS := wSeq (wAsg 2 (eLst (aNil)))
    w__law_sizes_2
def w__law_sizes : WS := wSeq (wAsg 1 (eu2 fEq (eCall S__law_draw [some 0, none] (cName 0 (cCons (eF (eU (uC (.int 8)))) (cNil)))) (uC (.int 1))))
    w__law_sizes_1
abbrev N__law_entry : List Str := ["hand", "size", "entry", "value"]
theorem sc__law_entry : FnScope N__law_entry ["hand", "size"] (defScope s__law_entry) := ⟨rfl, rfl, rfl, by decide +kernel, rfl, by decide +kernel, by decide +kernel⟩
@[irreducible] def w__law_entry_4 : WS := wSeq (wRet (eN (n1 fTup (uVar 2))))
    wNil
@[irreducible] def w__law_entry_3 : WS := wSeq (wIf (tV (ue2 fEq (uVar 2) (uN (nLst (auNil))))) (wSeq (wAppN 2 (eCall S__law_draw [some 0, none] (cName 0 (cNameF 1 (cNil)))))
    (wNil)) (wNil))
    w__law_entry_4
@[irreducible] def w__law_entry_2 : WS := wSeq (wFor (iR1 (eName 1)) (wSet 3) (wSeq (wIf (tV (eu2 fEq (eCall S__law_draw [some 0, none] (cName 0 (cCons (eF (eU (uC (.int 2)))) (cNil)))) (uC (.int 1)))) (wSeq (wAppN 2 (eName 3))
    (wNil)) (wNil))
    (wNil)))
    w__law_entry_3
@[irreducible] def w__law_entry_1 : WS := wSeq (wAsg 2 (eLst (aNil)))
    w__law_entry_2
def w__law_entry : WS := wSeq (wIf (tV (eu2 fEq (eCall S__law_draw [some 0, none] (cName 0 (cCons (eF (eU (uC (.int 4)))) (cNil)))) (uC (.int 1)))) (wSeq (wRet (eN (nTupRg (uVar 1))))
    (wNil)) (wNil))
    w__law_entry_1
abbrev N__law_region : List Str := ["hand", "sizes", "boxes", "k", "size"]
theorem sc__law_region : FnScope N__law_region ["hand", "sizes"] (defScope s__law_region) := ⟨rfl, rfl, rfl, by decide +kernel, rfl, by decide +kernel, by decide +kernel⟩
@[irreducible] def w__law_region_3 : WS := wSeq (wRet (eName 2))
    wNil
@[irreducible] def w__law_region_2 : WS := wSeq (wIf (tV (eu2 fEq (eCall S__law_draw [some 0, none] (cName 0 (cCons (eF (eU (uC (.int 12)))) (cNil)))) (uC (.int 1)))) (wSeq (wAppN 2 (e1 fTup (eLc [4] (iH (uVar 1)) (wSet 4) (fun en Q => Q true en) (eN (nTupRg (uVar 4))))))
    (wNil)) (wNil))
    w__law_region_3
@[irreducible] def w__law_region_1 : WS := wSeq (wFor (iR1 (eCall S__law_draw [some 0, none] (cNameL 0 (cCons (eF (eIf (tV (eu2 (fI0 fun i j => .bool (decide (j < i))) (eCall S__law_draw [some 0, none] (cName 0 (cCons (eF (eU (uC (.int 3)))) (cNil)))) (uC (.int 0)))) (eU (uC (.int 4))) (eU (uC (.int 6))))) (cNil))))) (wSet 3) (wSeq (wIf (tAndD (tV (ue2 fNe (uVar 2) (uN (nLst (auNil))))) (tV (eu2 fEq (eCall S__law_draw [some 0, none] (cName 0 (cCons (eF (eU (uC (.int 6)))) (cNil)))) (uC (.int 1))))) (wSeq (wAppN 2 (eU (uIx (uVar 2) (uC (.int 0)))))
    (wNil)) (wSeq (wAppN 2 (e1 fTup (eLc [4] (iFz 1) (wSet 4) (fun en Q => Q true en) (eCall S__law_entry [some 0, none] (cName 0 (cNameF 4 (cNil)))))))
    (wNil)))
    (wNil)))
    w__law_region_2
def w__law_region : WS := wSeq (wAsg 2 (eLst (aNil)))
    w__law_region_1
abbrev N__law_holds : List Str := ["boxes", "state", "box", "fits", "k"]
theorem sc__law_holds : FnScope N__law_holds ["boxes", "state"] (defScope s__law_holds) := ⟨rfl, rfl, rfl, by decide +kernel, rfl, by decide +kernel, by decide +kernel⟩
@[irreducible] def w__law_holds_1 : WS := wSeq (wRet (eU (uC (.bool false))))
    wNil
def w__law_holds : WS := wSeq (wForN 0 (wSet 2) (wSeq (wAsg 3 (eLc [4] (iR1 (eN (n1 fLen (uVar 1)))) (wSet 4) (tV (ue2 (fIn false) (uIx (uVar 1) (uVar 4)) (uIx (uVar 2) (uVar 4)))) (eU (uVar 4))))
    (wSeq (wIf (tV (ue2 fEq (uN (n1 fLen (uVar 3))) (uN (n1 fLen (uVar 1))))) (wSeq (wRet (eU (uC (.bool true))))
    (wNil)) (wNil))
    (wNil))))
    w__law_holds_1
abbrev N__law_boxes : List Str := ["states", "many", "rests", "state", "groups", "entry", "place", "k", "told", "group", "box"]
theorem sc__law_boxes : FnScope N__law_boxes ["states", "many"] (defScope s__law_boxes) := ⟨rfl, rfl, rfl, by decide +kernel, rfl, by decide +kernel, by decide +kernel⟩
@[irreducible] def w__law_boxes_j1 (m : Nat) : WS := wSeq (wApp (pIx (pIx (pVar 2) (uN (n1 (fI1 fun i => .int (-i)) (uC (.int 1))))) (uC (.int 1))) (nSl (uVar 3) (oSome (uC (.int 1))) (oNone)))
    (wNil)
@[irreducible] def w__law_boxes_j2 (m : Nat) : WS := wSeq (wIf (tV (ue2 (fI0 fun i j => .bool (decide (i < j))) (uVar 6) (uC (.int 0)))) (wSeq (wAppN 4 (eLst (aCons (eLst (aCons (eU (uIx (uVar 5) (uC (.int 0)))) (aNil))) (aCons (eU (uIx (uVar 5) (uC (.int 1)))) (aNil)))))
    (wNil)) (wSeq (wApp (pIx (pIx (pVar 4) (uVar 6)) (uC (.int 0))) (nU (uIx (uVar 5) (uC (.int 0)))))
    (wNil)))
    (wNil)
@[irreducible] def w__law_boxes_7 (m : Nat) : WS := wSeq (wRet (eName 8))
    wNil
@[irreducible] def w__law_boxes_6 (m : Nat) : WS := wSeq (wFrz 4 (wForN 4 (wSet 9) (wSeq (wFor (iE (eF (eCall (S__law_boxes m) [none, none] (cCons (eF (eU (uIx (uVar 9) (uC (.int 1))))) (cCons (eF (eN (n2 (fI0 fun i j => .int (i - j)) (uVar 1) (uC (.int 1))))) (cNil)))))) (wSet 10) (wSeq (wAppN 8 (eN (n2 fAdd (uN (nTup (auCons (uN (n1 fTup (uIx (uVar 9) (uC (.int 0))))) (auNil)))) (uVar 10))))
    (wNil)))
    (wNil))))
    (w__law_boxes_7 m)
@[irreducible] def w__law_boxes_5 (m : Nat) : WS := wSeq (wAsg 8 (eLst (aNil)))
    (w__law_boxes_6 m)
@[irreducible] def w__law_boxes_4 (m : Nat) : WS := wSeq (wFrz 2 (wForN 2 (wSet 5) (wSeq (wAsg 6 (eN (n1 (fI1 fun i => .int (-i)) (uC (.int 1)))))
    (wSeq (wFor (iR1 (eN (n1 fLen (uVar 4)))) (wSet 7) (wSeq (wIf (tV (ue2 fEq (uIx (uIx (uVar 4) (uVar 7)) (uC (.int 1))) (uIx (uVar 5) (uC (.int 1))))) (wSeq (wAsg 6 (eName 7))
    (wNil)) (wNil))
    (wNil)))
    (w__law_boxes_j2 m)))))
    (w__law_boxes_5 m)
@[irreducible] def w__law_boxes_3 (m : Nat) : WS := wSeq (wAsg 4 (eLst (aNil)))
    (w__law_boxes_4 m)
@[irreducible] def w__law_boxes_2 (m : Nat) : WS := wSeq (wForN 0 (wSet 3) (wSeq (wIf (tOrD (tV (ue2 fEq (uVar 2) (uN (nLst (auNil))))) (tV (ue2 fNe (uIx (uIx (uVar 2) (uN (n1 (fI1 fun i => .int (-i)) (uC (.int 1))))) (uC (.int 0))) (uIx (uVar 3) (uC (.int 0)))))) (wSeq (wAppN 2 (eLst (aCons (eU (uIx (uVar 3) (uC (.int 0)))) (aCons (eLst (aNil)) (aNil)))))
    (wNil)) (wNil))
    (w__law_boxes_j1 m)))
    (w__law_boxes_3 m)
@[irreducible] def w__law_boxes_1 (m : Nat) : WS := wSeq (wAsg 2 (eLst (aNil)))
    (w__law_boxes_2 m)
def w__law_boxes (m : Nat) : WS := wSeq (wIf (tV (ue2 fEq (uVar 1) (uC (.int 0)))) (wSeq (wRet (eIf (tV (ue2 fNe (uVar 0) (uN (nLst (auNil))))) (eLst (aCons (eN (nTup (auNil))) (aNil))) (eLst (aNil))))
    (wNil)) (wNil))
    (w__law_boxes_1 m)
abbrev N__law_differs : List Str := ["sizes", "known", "states", "k", "state", "value"]
theorem sc__law_differs : FnScope N__law_differs ["sizes", "known", "states", "k"] (defScope s__law_differs) := ⟨rfl, rfl, rfl, by decide +kernel, rfl, by decide +kernel, by decide +kernel⟩
@[irreducible] def w__law_differs_1 : WS := wSeq (wRet (eU (uC (.bool false))))
    wNil
def w__law_differs : WS := wSeq (wForN 2 (wSet 4) (wSeq (wFor (iR1 (eU (uIx (uVar 0) (uVar 3)))) (wSet 5) (wSeq (wIf (tV (ue2 (fIn true) (uN (n2 fAdd (uN (n2 fAdd (uN (nSl (uVar 4) (oNone) (oSome (uVar 3)))) (uN (nTup (auCons (uVar 5) (auNil)))))) (uN (nSl (uVar 4) (oSome (uN (n2 fAdd (uVar 3) (uC (.int 1))))) (oNone))))) (uVar 1))) (wSeq (wRet (eU (uC (.bool true))))
    (wNil)) (wNil))
    (wNil)))
    (wNil)))
    w__law_differs_1
abbrev N__law_known : List Str := ["states", "known", "state"]
theorem sc__law_known : FnScope N__law_known ["states"] (defScope s__law_known) := ⟨rfl, rfl, rfl, by decide +kernel, rfl, by decide +kernel, by decide +kernel⟩
@[irreducible] def w__law_known_2 : WS := wSeq (wRet (eName 1))
    wNil
@[irreducible] def w__law_known_1 : WS := wSeq (wForN 0 (wSet 2) (wSeq (wSub (eU (uC (.bool true))) (pVar 1) (uVar 2))
    (wNil)))
    w__law_known_2
def w__law_known : WS := wSeq (wAsg 1 (eN (nDic true)))
    w__law_known_1
abbrev N__law_seen : List Str := ["sizes", "states", "known", "k"]
theorem sc__law_seen : FnScope N__law_seen ["sizes", "states"] (defScope s__law_seen) := ⟨rfl, rfl, rfl, by decide +kernel, rfl, by decide +kernel, by decide +kernel⟩
@[irreducible] def w__law_seen_1 : WS := wSeq (wRet (eLc [3] (iR1 (eN (n1 fLen (uVar 0)))) (wSet 3) (tV (eCall S__law_differs [none, some 2, none, none] (cNameF 0 (cName 2 (cNameF 1 (cNameF 3 (cNil))))))) (eName 3)))
    wNil
def w__law_seen : WS := wSeq (wAsg 2 (eCall S__law_known [none] (cNameF 1 (cNil))))
    w__law_seen_1
abbrev N__law_picked : List Str := ["hand", "rows", "picked", "row"]
theorem sc__law_picked : FnScope N__law_picked ["hand", "rows"] (defScope s__law_picked) := ⟨rfl, rfl, rfl, by decide +kernel, rfl, by decide +kernel, by decide +kernel⟩
@[irreducible] def w__law_picked_2 : WS := wSeq (wRet (eName 2))
    wNil
@[irreducible] def w__law_picked_1 : WS := wSeq (wForN 1 (wSet 3) (wSeq (wIf (tV (eu2 fEq (eCall S__law_draw [some 0, none] (cName 0 (cCons (eF (eU (uC (.int 2)))) (cNil)))) (uC (.int 1)))) (wSeq (wAppN 2 (eName 3))
    (wNil)) (wNil))
    (wNil)))
    w__law_picked_2
def w__law_picked : WS := wSeq (wAsg 2 (eLst (aNil)))
    w__law_picked_1
abbrev N__law_second : List Str := ["hand", "sizes", "every", "known", "way", "changed", "rests", "sets", "states", "value", "rest", "state"]
theorem sc__law_second : FnScope N__law_second ["hand", "sizes", "every", "known"] (defScope s__law_second) := ⟨rfl, rfl, rfl, by decide +kernel, rfl, by decide +kernel, by decide +kernel⟩
@[irreducible] def w__law_second_7 : WS := wSeq (wRet (eName 8))
    wNil
@[irreducible] def w__law_second_6 : WS := wSeq (wFrz 7 (wFor (iR1 (eU (uIx (uVar 1) (uC (.int 0))))) (wSet 9) (wSeq (wFor (iE (eF (eIx (eName 7) (eCall S__law_draw [some 0, none] (cName 0 (cCons (eF (eU (uC (.int 3)))) (cNil))))))) (wSet 10) (wSeq (wAppN 8 (eN (n2 fAdd (uN (nTup (auCons (uVar 9) (auNil)))) (uVar 10))))
    (wNil)))
    (wNil))))
    w__law_second_7
@[irreducible] def w__law_second_5 : WS := wSeq (wAsg 8 (eLst (aNil)))
    w__law_second_6
@[irreducible] def w__law_second_4 : WS := wSeq (wAsg 7 (eLst (aCons (eCall S__law_picked [some 0, none] (cName 0 (cNameF 6 (cNil)))) (aCons (eCall S__law_picked [some 0, none] (cName 0 (cNameF 6 (cNil)))) (aCons (eLst (aNil)) (aNil))))))
    w__law_second_5
@[irreducible] def w__law_second_3 : WS := wSeq (wAsg 6 (eCall S__law_rows [none] (cCons (eF (eN (nSl (uVar 1) (oSome (uC (.int 1))) (oNone)))) (cNil))))
    w__law_second_4
@[irreducible] def w__law_second_2 : WS := wSeq (wIf (tV (ue2 fEq (uVar 4) (uC (.int 1)))) (wSeq (wRet (eCall S__law_picked [some 0, none] (cName 0 (cNameF 2 (cNil)))))
    (wNil)) (wNil))
    w__law_second_3
@[irreducible] def w__law_second_1 : WS := wSeq (wIf (tV (ue2 fEq (uVar 4) (uC (.int 0)))) (wSeq (wAsg 5 (eIx (eName 2) (eCall S__law_draw [some 0, none] (cName 0 (cCons (eF (eN (n1 fLen (uVar 2)))) (cNil))))))
    (wSeq (wRet (eLc [11] (iH (uVar 2)) (wSet 11) (tV (ue2 fNe (uN (n2 (fIn false) (uVar 11) (uVar 3))) (uN (n2 fEq (uVar 11) (uVar 5))))) (eU (uVar 11))))
    (wNil))) (wNil))
    w__law_second_2
def w__law_second : WS := wSeq (wAsg 4 (eCall S__law_draw [some 0, none] (cName 0 (cCons (eF (eU (uC (.int 3)))) (cNil)))))
    w__law_second_1
abbrev N__law_mixed : List Str := ["hand", "states", "rows", "turn", "way"]
theorem sc__law_mixed : FnScope N__law_mixed ["hand", "states"] (defScope s__law_mixed) := ⟨rfl, rfl, rfl, by decide +kernel, rfl, by decide +kernel, by decide +kernel⟩
@[irreducible] def w__law_mixed_5 : WS := wSeq (wFrz 2 (wRet (e2 fAdd (eName 2) (eSl (eName 2) (oeNone) (oeSome (eCall S__law_draw [some 0, none] (cName 0 (cCons (eF (eU (uC (.int 4)))) (cNil)))))))))
    wNil
@[irreducible] def w__law_mixed_4 : WS := wSeq (wIf (tV (ue2 fEq (uVar 4) (uC (.int 2)))) (wSeq (wAsg 2 (eN (n2 fAdd (uN (nSl3 (uVar 2) (oSome (uC (.int 1))) (oNone) (oSome (uC (.int 2))))) (uN (nSl3 (uVar 2) (oNone) (oNone) (oSome (uC (.int 2))))))))
    (wNil)) (wNil))
    w__law_mixed_5
@[irreducible] def w__law_mixed_3 : WS := wSeq (wIf (tV (ue2 fEq (uVar 4) (uC (.int 1)))) (wSeq (wAsg 2 (eN (nSl3 (uVar 2) (oNone) (oNone) (oSome (uN (n1 (fI1 fun i => .int (-i)) (uC (.int 1))))))))
    (wNil)) (wNil))
    w__law_mixed_4
@[irreducible] def w__law_mixed_2 : WS := wSeq (wAsg 4 (eCall S__law_draw [some 0, none] (cName 0 (cCons (eF (eU (uC (.int 3)))) (cNil)))))
    w__law_mixed_3
@[irreducible] def w__law_mixed_1 : WS := wSeq (wIf (tV (ue2 fNe (uVar 2) (uN (nLst (auNil))))) (wSeq (wAsg 3 (eCall S__law_draw [some 0, none] (cName 0 (cCons (eF (eN (n1 fLen (uVar 2)))) (cNil)))))
    (wSeq (wAsg 2 (eN (n2 fAdd (uN (nSl (uVar 2) (oSome (uVar 3)) (oNone))) (uN (nSl (uVar 2) (oNone) (oSome (uVar 3)))))))
    (wNil))) (wNil))
    w__law_mixed_2
def w__law_mixed : WS := wSeq (wAsg 2 (eN (n1 fLst (uVar 1))))
    w__law_mixed_1
abbrev N__law_is_number : List Str := ["value"]
theorem sc__law_is_number : FnScope N__law_is_number ["value"] (defScope s__law_is_number) := ⟨rfl, rfl, rfl, by decide +kernel, rfl, by decide +kernel, by decide +kernel⟩
def w__law_is_number : WS := wSeq (wRet (eAndD (eN (n1 (fIsi .int) (uVar 0))) (eNot (eN (n1 (fIsi .bool) (uVar 0))))))
    wNil
abbrev N__law_are_numbers : List Str := ["value", "entry"]
theorem sc__law_are_numbers : FnScope N__law_are_numbers ["value"] (defScope s__law_are_numbers) := ⟨rfl, rfl, rfl, by decide +kernel, rfl, by decide +kernel, by decide +kernel⟩
@[irreducible] def w__law_are_numbers_2 : WS := wSeq (wRet (eU (uC (.bool true))))
    wNil
@[irreducible] def w__law_are_numbers_1 : WS := wSeq (wForN 0 (wSet 1) (wSeq (wIf (tNotD (tV (eCall S__law_is_number [none] (cNameF 1 (cNil))))) (wSeq (wRet (eU (uC (.bool false))))
    (wNil)) (wNil))
    (wNil)))
    w__law_are_numbers_2
def w__law_are_numbers : WS := wSeq (wIf (tNotD (tV (eN (n1 (fIsi .tuple) (uVar 0))))) (wSeq (wRet (eU (uC (.bool false))))
    (wNil)) (wNil))
    w__law_are_numbers_1
abbrev N__law_are_states : List Str := ["value", "state"]
theorem sc__law_are_states : FnScope N__law_are_states ["value"] (defScope s__law_are_states) := ⟨rfl, rfl, rfl, by decide +kernel, rfl, by decide +kernel, by decide +kernel⟩
@[irreducible] def w__law_are_states_2 : WS := wSeq (wRet (eU (uC (.bool true))))
    wNil
@[irreducible] def w__law_are_states_1 : WS := wSeq (wForN 0 (wSet 1) (wSeq (wIf (tNotD (tV (eCall S__law_are_numbers [none] (cNameF 1 (cNil))))) (wSeq (wRet (eU (uC (.bool false))))
    (wNil)) (wNil))
    (wNil)))
    w__law_are_states_2
def w__law_are_states : WS := wSeq (wIf (tNotD (tV (eN (n1 (fIsi .list) (uVar 0))))) (wSeq (wRet (eU (uC (.bool false))))
    (wNil)) (wNil))
    w__law_are_states_1
abbrev N__law_are_boxes : List Str := ["value", "box", "entry"]
theorem sc__law_are_boxes : FnScope N__law_are_boxes ["value"] (defScope s__law_are_boxes) := ⟨rfl, rfl, rfl, by decide +kernel, rfl, by decide +kernel, by decide +kernel⟩
@[irreducible] def w__law_are_boxes_j1 : WS := wSeq (wForN 1 (wSet 2) (wSeq (wIf (tNotD (tV (eCall S__law_are_numbers [none] (cNameF 2 (cNil))))) (wSeq (wRet (eU (uC (.bool false))))
    (wNil)) (wNil))
    (wNil)))
    (wNil)
@[irreducible] def w__law_are_boxes_2 : WS := wSeq (wRet (eU (uC (.bool true))))
    wNil
@[irreducible] def w__law_are_boxes_1 : WS := wSeq (wForN 0 (wSet 1) (wSeq (wIf (tNotD (tV (eN (n1 (fIsi .tuple) (uVar 1))))) (wSeq (wRet (eU (uC (.bool false))))
    (wNil)) (wNil))
    (w__law_are_boxes_j1)))
    w__law_are_boxes_2
def w__law_are_boxes : WS := wSeq (wIf (tNotD (tV (eN (n1 (fIsi .list) (uVar 0))))) (wSeq (wRet (eU (uC (.bool false))))
    (wNil)) (wNil))
    w__law_are_boxes_1
abbrev N__law_states_told : List Str := ["boxes", "states", "handed", "told"]
theorem sc__law_states_told : FnScope N__law_states_told ["boxes", "states"] (defScope s__law_states_told) := ⟨rfl, rfl, rfl, by decide +kernel, rfl, by decide +kernel, by decide +kernel⟩
@[irreducible] def w__law_states_told_5 : WS := wSeq (wRet (eu2 fEq (eCall S_states_of [none] (cNameF 2 (cNil))) (uVar 1)))
    wNil
@[irreducible] def w__law_states_told_4 : WS := wSeq (wSub (eU (uIx (uVar 3) (uN (n1 (fI1 fun i => .int (-i)) (uC (.int 1)))))) (pVar 3) (uC (.int 0)))
    w__law_states_told_5
@[irreducible] def w__law_states_told_3 : WS := wSeq (wAppN 3 (eN (nTup (auNil))))
    w__law_states_told_4
@[irreducible] def w__law_states_told_2 : WS := wSeq (wIf (tOrD (tNotD (tV (eCall S__law_are_states [some 3] (cName 3 (cNil))))) (tOrD (tV (ue2 fNe (uVar 3) (uVar 1))) (tV (ue2 fNe (uVar 2) (uVar 0))))) (wSeq (wRet (eU (uC (.bool false))))
    (wNil)) (wNil))
    w__law_states_told_3
@[irreducible] def w__law_states_told_1 : WS := wSeq (wAsg 3 (eCall S_states_of [none] (cNameF 2 (cNil))))
    w__law_states_told_2
def w__law_states_told : WS := wSeq (wAsg 2 (eN (n1 fLst (uVar 0))))
    w__law_states_told_1
abbrev N__law_boxes_told : List Str := ["sizes", "rows", "due", "handed", "told"]
theorem sc__law_boxes_told : FnScope N__law_boxes_told ["sizes", "rows", "due"] (defScope s__law_boxes_told) := ⟨rfl, rfl, rfl, by decide +kernel, rfl, by decide +kernel, by decide +kernel⟩
@[irreducible] def w__law_boxes_told_5 : WS := wSeq (wRet (eu2 fEq (eCall S_boxes_of [none, none] (cNameF 0 (cNameF 3 (cNil)))) (uVar 2)))
    wNil
@[irreducible] def w__law_boxes_told_4 : WS := wSeq (wSub (eU (uIx (uVar 4) (uN (n1 (fI1 fun i => .int (-i)) (uC (.int 1)))))) (pVar 4) (uC (.int 0)))
    w__law_boxes_told_5
@[irreducible] def w__law_boxes_told_3 : WS := wSeq (wAppN 4 (eN (nTup (auNil))))
    w__law_boxes_told_4
@[irreducible] def w__law_boxes_told_2 : WS := wSeq (wIf (tOrD (tNotD (tV (eCall S__law_are_boxes [some 4] (cName 4 (cNil))))) (tOrD (tV (ue2 fNe (uVar 4) (uVar 2))) (tV (ue2 fNe (uVar 3) (uVar 1))))) (wSeq (wRet (eU (uC (.bool false))))
    (wNil)) (wNil))
    w__law_boxes_told_3
@[irreducible] def w__law_boxes_told_1 : WS := wSeq (wAsg 4 (eCall S_boxes_of [none, none] (cNameF 0 (cNameF 3 (cNil)))))
    w__law_boxes_told_2
def w__law_boxes_told : WS := wSeq (wAsg 3 (eN (n1 fLst (uVar 1))))
    w__law_boxes_told_1
abbrev N__law_seen_told : List Str := ["sizes", "boxes", "due", "handed", "told"]
theorem sc__law_seen_told : FnScope N__law_seen_told ["sizes", "boxes", "due"] (defScope s__law_seen_told) := ⟨rfl, rfl, rfl, by decide +kernel, rfl, by decide +kernel, by decide +kernel⟩
@[irreducible] def w__law_seen_told_5 : WS := wSeq (wRet (eu2 fEq (eCall S_seen_by [none, none] (cNameF 0 (cNameF 3 (cNil)))) (uVar 2)))
    wNil
@[irreducible] def w__law_seen_told_4 : WS := wSeq (wAppN 4 (eU (uC (.int 0))))
    w__law_seen_told_5
@[irreducible] def w__law_seen_told_3 : WS := wSeq (wIf (tOrD (tV (ue2 fNe (uVar 4) (uVar 2))) (tV (ue2 fNe (uVar 3) (uVar 1)))) (wSeq (wRet (eU (uC (.bool false))))
    (wNil)) (wNil))
    w__law_seen_told_4
@[irreducible] def w__law_seen_told_2 : WS := wSeq (wIf (tOrD (tNotD (tV (eN (n1 (fIsi .list) (uVar 4))))) (tNotD (tV (eCall S__law_are_numbers [none] (cCons (eF (eN (n1 fTup (uVar 4)))) (cNil)))))) (wSeq (wRet (eU (uC (.bool false))))
    (wNil)) (wNil))
    w__law_seen_told_3
@[irreducible] def w__law_seen_told_1 : WS := wSeq (wAsg 4 (eCall S_seen_by [none, none] (cNameF 0 (cNameF 3 (cNil)))))
    w__law_seen_told_2
def w__law_seen_told : WS := wSeq (wAsg 3 (eN (n1 fLst (uVar 1))))
    w__law_seen_told_1
abbrev N__law_inside_told : List Str := ["hand", "boxes", "every", "known", "asked", "handed", "state", "told", "k"]
theorem sc__law_inside_told : FnScope N__law_inside_told ["hand", "boxes", "every", "known"] (defScope s__law_inside_told) := ⟨rfl, rfl, rfl, by decide +kernel, rfl, by decide +kernel, by decide +kernel⟩
@[irreducible] def w__law_inside_told_4 : WS := wSeq (wRet (eN (n2 fEq (uVar 5) (uVar 1))))
    wNil
@[irreducible] def w__law_inside_told_3 : WS := wSeq (wForN 4 (wSet 6) (wSeq (wAsg 7 (eCall S_inside [none, none] (cNameF 5 (cNameF 6 (cNil)))))
    (wSeq (wIf (tOrD (tNotD (tV (eN (n1 (fIsi .bool) (uVar 7))))) (tV (ue2 fNe (uVar 7) (uN (n2 (fIn false) (uVar 6) (uVar 3)))))) (wSeq (wRet (eU (uC (.bool false))))
    (wNil)) (wNil))
    (wNil))))
    w__law_inside_told_4
@[irreducible] def w__law_inside_told_2 : WS := wSeq (wAsg 5 (eN (n1 fLst (uVar 1))))
    w__law_inside_told_3
@[irreducible] def w__law_inside_told_1 : WS := wSeq (wIf (tV (ue2 (fI0 fun i j => .bool (decide (j < i))) (uN (n1 fLen (uVar 2))) (uC (.int 64)))) (wSeq (wAsg 4 (eLc [8] (iR1 (eU (uC (.int 40)))) (wSet 8) (fun en Q => Q true en) (eIx (eName 2) (eCall S__law_draw [some 0, none] (cName 0 (cCons (eF (eN (n1 fLen (uVar 2)))) (cNil)))))))
    (wNil)) (wNil))
    w__law_inside_told_2
def w__law_inside_told : WS := wSeq (wAsg 4 (eN (n1 fLst (uVar 2))))
    w__law_inside_told_1
abbrev N_law : List Str := ["script", "hand", "sizes", "boxes", "every", "states", "known", "due", "seen", "near", "outer", "near_due", "outer_due", "state"]
theorem sc_law : FnScope N_law ["script"] (defScope s_law) := ⟨rfl, rfl, rfl, by decide +kernel, rfl, by decide +kernel, by decide +kernel⟩
@[irreducible] def w_law_20 (m : Nat) : WS := wSeq (wRet (eAndD (eCall S__law_boxes_told [none, none, none] (cCons (eF (eN (nTup (auNil)))) (cCons (eF (eLst (aNil))) (cCons (eF (eLst (aNil))) (cNil))))) (eCall S__law_boxes_told [none, none, none] (cCons (eF (eN (nTup (auNil)))) (cCons (eF (e2 fMul (eLst (aCons (eN (nTup (auNil))) (aNil))) (e2 fAdd (eU (uC (.int 1))) (eCall S__law_draw [some 1, none] (cName 1 (cCons (eF (eU (uC (.int 3)))) (cNil))))))) (cCons (eF (eLst (aCons (eN (nTup (auNil))) (aNil)))) (cNil)))))))
    wNil
@[irreducible] def w_law_19 (m : Nat) : WS := wSeq (wIf (tNotD (tV (eCall S__law_boxes_told [none, none, none] (cNameF 2 (cNameF 5 (cNameF 7 (cNil))))))) (wSeq (wRet (eU (uC (.bool false))))
    (wNil)) (wNil))
    (w_law_20 m)
@[irreducible] def w_law_18 (m : Nat) : WS := wSeq (wIf (tOrD (tNotD (tV (eCall S__law_boxes_told [none, none, none] (cNameF 2 (cNameF 10 (cNameF 12 (cNil))))))) (tNotD (tV (eCall S__law_seen_told [none, none, none] (cNameF 2 (cNameF 12 (cNameF 8 (cNil)))))))) (wSeq (wRet (eU (uC (.bool false))))
    (wNil)) (wNil))
    (w_law_19 m)
@[irreducible] def w_law_17 (m : Nat) : WS := wSeq (wIf (tNotD (tV (eCall S__law_seen_told [none, none, none] (cNameF 2 (cNameF 11 (cCons (eF (eCall S__law_seen [none, none] (cNameF 2 (cNameF 9 (cNil))))) (cNil))))))) (wSeq (wRet (eU (uC (.bool false))))
    (wNil)) (wNil))
    (w_law_18 m)
@[irreducible] def w_law_16 (m : Nat) : WS := wSeq (wIf (tOrD (tNotD (tV (eCall S__law_boxes_told [none, none, none] (cNameF 2 (cCons (eF (eCall S__law_mixed [some 1, none] (cName 1 (cNameF 9 (cNil))))) (cNameF 11 (cNil))))))) (tNotD (tV (eCall S__law_states_told [none, none] (cNameF 11 (cNameF 9 (cNil))))))) (wSeq (wRet (eU (uC (.bool false))))
    (wNil)) (wNil))
    (w_law_17 m)
@[irreducible] def w_law_15 (m : Nat) : WS := wSeq (wAsg 12 (eCall (S__law_boxes m) [none, none] (cNameF 10 (cCons (eF (eN (n1 fLen (uVar 2)))) (cNil)))))
    (w_law_16 m)
@[irreducible] def w_law_14 (m : Nat) : WS := wSeq (wAsg 11 (eCall (S__law_boxes m) [none, none] (cNameF 9 (cCons (eF (eN (n1 fLen (uVar 2)))) (cNil)))))
    (w_law_15 m)
@[irreducible] def w_law_13 (m : Nat) : WS := wSeq (wAsg 10 (eLc [13] (iH (uVar 4)) (wSet 13) (tV (ue2 (fIn true) (uVar 13) (uVar 6))) (eU (uVar 13))))
    (w_law_14 m)
@[irreducible] def w_law_12 (m : Nat) : WS := wSeq (wAsg 9 (eCall S__law_second [some 1, none, none, some 6] (cName 1 (cNameF 2 (cNameF 4 (cName 6 (cNil)))))))
    (w_law_13 m)
@[irreducible] def w_law_11 (m : Nat) : WS := wSeq (wIf (tOrD (tNotD (tV (eCall S__law_inside_told [some 1, none, none, some 6] (cName 1 (cNameF 3 (cNameF 4 (cName 6 (cNil)))))))) (tNotD (tV (eCall S__law_inside_told [some 1, none, none, some 6] (cName 1 (cNameF 7 (cNameF 4 (cName 6 (cNil))))))))) (wSeq (wRet (eU (uC (.bool false))))
    (wNil)) (wNil))
    (w_law_12 m)
@[irreducible] def w_law_10 (m : Nat) : WS := wSeq (wIf (tOrD (tNotD (tV (eCall S__law_seen_told [none, none, none] (cNameF 2 (cNameF 3 (cNameF 8 (cNil))))))) (tNotD (tV (eCall S__law_seen_told [none, none, none] (cNameF 2 (cNameF 7 (cNameF 8 (cNil)))))))) (wSeq (wRet (eU (uC (.bool false))))
    (wNil)) (wNil))
    (w_law_11 m)
@[irreducible] def w_law_9 (m : Nat) : WS := wSeq (wIf (tNotD (tV (eCall S__law_boxes_told [none, none, none] (cNameF 2 (cCons (eF (eCall S__law_mixed [some 1, none] (cName 1 (cNameF 5 (cNil))))) (cNameF 7 (cNil))))))) (wSeq (wRet (eU (uC (.bool false))))
    (wNil)) (wNil))
    (w_law_10 m)
@[irreducible] def w_law_8 (m : Nat) : WS := wSeq (wIf (tOrD (tNotD (tV (eCall S__law_states_told [none, none] (cNameF 3 (cNameF 5 (cNil)))))) (tNotD (tV (eCall S__law_states_told [none, none] (cNameF 7 (cNameF 5 (cNil))))))) (wSeq (wRet (eU (uC (.bool false))))
    (wNil)) (wNil))
    (w_law_9 m)
@[irreducible] def w_law_7 (m : Nat) : WS := wSeq (wAsg 8 (eCall S__law_seen [none, none] (cNameF 2 (cNameF 5 (cNil)))))
    (w_law_8 m)
@[irreducible] def w_law_6 (m : Nat) : WS := wSeq (wAsg 7 (eCall (S__law_boxes m) [none, none] (cNameF 5 (cCons (eF (eN (n1 fLen (uVar 2)))) (cNil)))))
    (w_law_7 m)
@[irreducible] def w_law_5 (m : Nat) : WS := wSeq (wAsg 6 (eCall S__law_known [none] (cNameF 5 (cNil))))
    (w_law_6 m)
@[irreducible] def w_law_4 (m : Nat) : WS := wSeq (wAsg 5 (eLc [13] (iFz 4) (wSet 13) (tV (eCall S__law_holds [none, none] (cNameF 3 (cNameF 13 (cNil))))) (eName 13)))
    (w_law_5 m)
@[irreducible] def w_law_3 (m : Nat) : WS := wSeq (wFrz 3 (wAsg 4 (eCall S__law_rows [none] (cNameF 2 (cNil)))))
    (w_law_4 m)
@[irreducible] def w_law_2 (m : Nat) : WS := wSeq (wAsg 3 (eCall S__law_region [some 1, none] (cName 1 (cNameF 2 (cNil)))))
    (w_law_3 m)
@[irreducible] def w_law_1 (m : Nat) : WS := wSeq (wAsg 2 (eCall S__law_sizes [some 1] (cName 1 (cNil))))
    (w_law_2 m)
def w_law (m : Nat) : WS := wSeq (wAsg 1 (eCall S__law_hand [some 0] (cName 0 (cNil))))
    (w_law_1 m)
end R09

set_option maxRecDepth 100000
set_option maxHeartbeats 0
namespace R09
open PySem PySem.Spec PyProof.Rows L2 DL

local macro_rules | `(tactic| trivial) => `(tactic| ((conv => whnf); first | (refine ⟨_, _, rfl, rfl, ?_⟩; trivial) | (refine ⟨rfl, rfl, ?_⟩; trivial) | (refine ⟨_, rfl, ?_⟩; trivial) | (refine ⟨_, _, rfl, ?_⟩; trivial) | (refine ⟨Nat.zero_le _, ?_⟩; trivial) | (rw [lst_data]; trivial) | skip))
theorem pw1 : CPowB 10 60 := by unfold CPowB; decide +kernel
theorem pw2 : CPowB (10 ^ Int.toNat 60) 4 := by unfold CPowB; decide +kernel
theorem pw3 : CPowB 10 18 := by unfold CPowB; decide +kernel
theorem pw4 : (0 : Int) < (10 ^ Int.toNat 60) ^ Int.toNat 4 := by decide +kernel
theorem p_cell : ∀ ts R, S__law_cell ts R → w__law_cell (endsOf ts R) (startD 1 ts) := by
  rintro ts R ⟨n, rfl, hR⟩
  have fin : ∀ x : Int, 0 ≤ x % (10 ^ Int.toNat 60) ^ Int.toNat 4 := fun x => Int.emod_nonneg _ (Int.ne_of_gt pw4)
  have tail : ∀ x : Int, w__law_cell_1 (endsOf [tI n] R) [.own (tI x)] := by
    intro x
    unfold w__law_cell_1
    trivial
    refine ⟨pw1, ?_⟩
    trivial
    refine ⟨pw2, ?_⟩
    trivial
    refine ⟨pw4, ?_⟩
    trivial
    exact hR _ (fin _)
  trivial
  split
  · trivial
    exact tail _
  · trivial
    exact tail _
theorem p_draw : ∀ ts R, S__law_draw ts R → w__law_draw (endsOf ts R) (startD 6 ts) := by
  rintro ts R ⟨h, m, rfl, ⟨cells0, a0, b0, c0, d0, rfl, wf0⟩, hm, hm2, hR⟩
  have hlen : (0 : Int) < ((cells0.map PyData.int).map T.dat).length := by
    rw [List.length_map, List.length_map]
    exact Int.ofNat_lt.mpr (Nat.pos_of_ne_zero fun e => wf0.ne (List.eq_nil_of_length_eq_zero e))
  have fin : ∀ r cells a b c d, 0 ≤ r → r < m → WFh cells a b c d → R (tI r) [T.nd .lst (handL cells a b c d), tI m] := fun r cells a b c d h1 h2 w => hR r _ ⟨_, _, _, _, _, rfl, w⟩ h1 h2
  have hmod : ∀ x : Int, 0 ≤ x % m ∧ x % m < m := fun x => ⟨Int.emod_nonneg _ (by omega), Int.emod_lt_of_pos _ (by omega)⟩
  -- the second half: for any hand
  have tail : ∀ (cells : List Int) (a b c d : Int) (x2 x3 : Sl T), WFh cells a b c d → w__law_draw_2 (endsOf [tH (handL cells0 a0 b0 c0 d0), tI m] R) [.io (tH (handL cells a b c d)), .own (tI m), x2, x3, .un, .un] := by
    intro cells a b c d x2 x3 wf
    have e3 : 0 ≤ b / m := Int.ediv_nonneg wf.b (by omega)
    unfold w__law_draw_2
    trivial
    split
    · rename_i hc
      have hc := of_decide_eq_true hc
      trivial
      refine ⟨by show 0 < m; omega, ?_⟩
      trivial
      refine ⟨by show 0 < m ∧ m < 1073741824; omega, ?_⟩
      trivial
      split
      · trivial
        unfold w__law_draw_j1
        trivial
        exact fin _ _ _ _ _ _ (hmod _).1 (hmod _).2 ⟨wf.ne, wf.cs, wf.a, e3, Int.le_refl _, wf.d⟩
      · trivial
        unfold w__law_draw_j1
        trivial
        exact fin _ _ _ _ _ _ (hmod _).1 (hmod _).2 ⟨wf.ne, wf.cs, wf.a, e3, by show 0 ≤ c - 1; omega, wf.d⟩
    · trivial
      unfold w__law_draw_3
      trivial
      refine ⟨.inr ⟨by decide, by decide⟩, ?_⟩
      trivial
      refine ⟨show (0 : Int) < 2147483629 by decide, ?_⟩
      trivial
      unfold w__law_draw_4
      trivial
      refine ⟨⟨by decide, by decide⟩, ?_⟩
      trivial
      refine ⟨by show 0 < m; omega, ?_⟩
      trivial
      exact fin _ _ _ _ _ _ (hmod _).1 (hmod _).2 wf
  trivial
  unfold w__law_draw_1
  trivial
  split
  · trivial
    refine ⟨hlen, ?_⟩
    trivial
    have em : (cells0.map PyData.int).map T.dat = cells0.map fun i => T.dat (.int i) := by rw [List.map_map]; rfl
    have hj : 0 ≤ a0 % ((cells0.map PyData.int).map T.dat).length := Int.emod_nonneg _ (by omega)
    have hj2 : a0 % ((cells0.map PyData.int).map T.dat).length < ((cells0.map PyData.int).map T.dat).length := Int.emod_lt_of_pos _ hlen
    rw [em] at hj hj2
    obtain ⟨x, hx, hx1, hx2, hx3⟩ := ix_at (xs := cells0) (f := fun i => T.dat (.int i)) hj hj2
    refine ⟨_, _, by rw [em]; exact hx2, by rw [em]; exact hx3, ?_⟩
    trivial
    have hA : 0 ≤ a0 + 1 := by have := wf0.a; omega
    have hD : ∀ y : Int, 0 ≤ y % 2147483647 := fun y => Int.emod_nonneg _ (by decide)
    split
    · trivial
      refine ⟨pw3, ?_⟩
      trivial
      split
      · trivial
        exact tail _ _ _ _ _ _ _ ⟨wf0.ne, wf0.cs, hA, wf0.cs x hx, (by decide : (0 : Int) ≤ 60), wf0.d⟩
      · trivial
        refine ⟨.inr ⟨by decide, by decide⟩, ?_⟩
        trivial
        refine ⟨show (0 : Int) < 1000003 by decide, ?_⟩
        trivial
        refine ⟨show (0 : Int) < 2147483647 by decide, ?_⟩
        trivial
        exact tail _ _ _ _ _ _ _ ⟨wf0.ne, wf0.cs, hA, wf0.b, wf0.c, hD _⟩
    · trivial
      refine ⟨.inr ⟨by decide, by decide⟩, ?_⟩
      trivial
      refine ⟨show (0 : Int) < 1000003 by decide, ?_⟩
      trivial
      refine ⟨show (0 : Int) < 2147483647 by decide, ?_⟩
      trivial
      exact tail _ _ _ _ _ _ _ ⟨wf0.ne, wf0.cs, hA, wf0.b, wf0.c, hD _⟩
  · trivial
    exact tail cells0 a0 b0 c0 d0 _ _ wf0
theorem eqv_nil {α : Type} (f : α → PyData) (l : List α) : PyData.eqv (.list (l.map f)) (.list []) = decide (l = []) := by
  rw [eqv_lst]
  cases l <;> simp [PyData.eqvAll]
theorem shaped_nil : SeqAt.shaped (.list []) = true := by decide
theorem p_hand : ∀ ts R, S__law_hand ts R → w__law_hand (endsOf ts R) (startD 3 ts) := by
  rintro ts R ⟨ns, rfl, hl, hR⟩
  have last : ∀ (cs : List Int) (x : Sl T), (∀ y ∈ cs, 0 ≤ y) → cs ≠ [] → w__law_hand_2 (endsOf [.scr ns] R) [.own (.scr ns), .own (lstT (cs.map PyData.int)), x] := by
    intro cs x h0 hne
    unfold w__law_hand_2
    trivial
    refine ⟨le_sz (n := 5) (by decide), ?_⟩
    trivial
    exact hR _ ⟨cs, 0, 0, 0, 62, rfl, hne, h0, by decide, by decide, by decide, by decide⟩
  have mid : ∀ (cs : List Int) (x : Sl T), (∀ y ∈ cs, 0 ≤ y) → w__law_hand_1 (endsOf [.scr ns] R) [.own (.scr ns), .own (lstT (cs.map PyData.int)), x] := by
    intro cs x h0
    unfold w__law_hand_1
    trivial
    refine ⟨shaped_ints cs, shaped_nil, ?_⟩
    trivial
    split
    · trivial
      refine ⟨le_sz (n := 1) (by decide), ?_⟩
      trivial
      exact last [0] _ (by decide) (by decide)
    · rename_i h
      rw [eqv_nil, decide_eq_false_iff_not] at h
      trivial
      exact last cs _ h0 h
  trivial
  rw [cut_map]
  have hcut : (cut ns none (some 63)).length ≤ 63 := Nat.le_trans (cut_length _ _ _) hl
  refine lcGo_pre (xs := cut ns none (some 63)) PyData.int (fun pre acc en => (∃ cs : List Int, acc = (cs.map PyData.int).map T.dat ∧ cs.length = pre.length ∧ (∀ y ∈ cs, 0 ≤ y)) ∧ en = [.own (.scr ns), .un, .un]) ?_ ?_ ?_
  · exact ⟨⟨[], rfl, rfl, fun _ h => nomatch h⟩, rfl⟩
  · rintro pre x post acc en K hx hK ⟨⟨cs, rfl, hlen, hcs⟩, rfl⟩
    have hpre : pre.length < 64 := by have := congrArg List.length hx; rw [List.length_append] at this; omega
    trivial
    intro r hr
    trivial
    refine ⟨lt_sz (by rw [List.length_map, List.length_map]; omega), ?_⟩
    exact hK _ _ ⟨⟨cs ++ [r], by simp, by simp [hlen], fun y hy => by
      rcases List.mem_append.mp hy with h | h
      · exact hcs y h
      · rw [List.mem_singleton.mp h]; exact hr⟩, rfl⟩
  · rintro acc en ⟨⟨cs, rfl, _, hcs⟩, rfl⟩
    trivial
    exact mid cs .un hcs
end R09

set_option maxRecDepth 100000
set_option maxHeartbeats 0
namespace R09
open PySem PySem.Spec PyProof.Rows L2 DL

local macro_rules | `(tactic| trivial) => `(tactic| ((conv => whnf); first | (refine ⟨_, _, rfl, rfl, ?_⟩; trivial) | (refine ⟨rfl, rfl, ?_⟩; trivial) | (refine ⟨_, rfl, ?_⟩; trivial) | (refine ⟨_, _, rfl, ?_⟩; trivial) | (refine ⟨Nat.zero_le _, ?_⟩; trivial) | (rw [lst_data]; trivial) | (rw [lst_sqK]; trivial) | (rw [lst_sqD]; trivial) | (rw [lst_lsD]; trivial) | (rw [lst_lsK]; trivial) | skip))
theorem rngD_eq (n : Int) : rngD 0 n.toNat = (rngI n).map PyData.int := by
  unfold rngD rngI
  rw [List.map_map]
  exact List.map_congr_left fun i _ => by simp
theorem rngI_nodup (n : Int) : (rngI n).Nodup := by
  unfold rngI
  exact List.Pairwise.map _ (fun a b (hab : a ≠ b) e => hab (Int.ofNat.inj e)) List.nodup_range
theorem mem_rngI {n v : Int} : v ∈ rngI n ↔ 0 ≤ v ∧ v < n := by
  unfold rngI
  rw [List.mem_map]
  constructor
  · rintro ⟨i, hi, rfl⟩
    have := List.mem_range.mp hi
    omega
  · intro ⟨h1, h2⟩
    exact ⟨v.toNat, List.mem_range.mpr (by omega), by omega⟩
theorem rngI_length (n : Int) : (rngI n).length = n.toNat := by unfold rngI; simp
theorem p_entry : ∀ ts R, S__law_entry ts R → w__law_entry (endsOf ts R) (startD 4 ts) := by
  rintro ts R ⟨h, s, rfl, hh, h1, h2, hR⟩
  have last : ∀ (h : List T) (es : List Int) (x : Sl T), HandOk h → es ≠ [] → es.Nodup → (∀ v ∈ es, 0 ≤ v ∧ v < s) → ∀ h0, w__law_entry_4 (endsOf [tH h0, tI s] R) [.io (tH h), .own (tI s), .own (lstT (es.map PyData.int)), x] := by
    intro h es x hh he hn hr h0
    unfold w__law_entry_4
    trivial
    exact hR es h hh he hn hr
  have mid : ∀ (h : List T) (es : List Int) (x : Sl T), HandOk h → es.Nodup → (∀ v ∈ es, 0 ≤ v ∧ v < s) → ∀ h0, w__law_entry_3 (endsOf [tH h0, tI s] R) [.io (tH h), .own (tI s), .own (lstT (es.map PyData.int)), x] := by
    intro h es x hh hn hr h0
    unfold w__law_entry_3
    trivial
    refine ⟨shaped_ints es, shaped_nil, ?_⟩
    trivial
    split
    · rename_i he
      rw [eqv_nil, decide_eq_true_eq] at he
      subst he
      trivial
      refine ⟨hh, h1, by omega, fun r h' hh' g1 g2 => ?_⟩
      trivial
      refine ⟨by decide, ?_⟩
      trivial
      exact last h' [r] _ hh' (by simp) (by simp) (by simp [g1, g2]) h0
    · rename_i he
      rw [eqv_nil, decide_eq_false_iff_not] at he
      trivial
      exact last h es _ hh he hn hr h0
  trivial
  refine ⟨hh, by decide, by decide, fun r h' hh' g1 g2 => ?_⟩
  trivial
  split
  · trivial
    refine ⟨⟨by decide, by decide, by omega, by omega, by omega⟩, ?_⟩
    trivial
    rw [rngD_eq]
    refine hR (rngI s) h' hh' ?_ (rngI_nodup s) fun v hv => mem_rngI.mp hv
    intro e
    have := rngI_length s
    rw [e] at this
    simp at this
    omega
  · trivial
    unfold w__law_entry_1
    trivial
    unfold w__law_entry_2
    trivial
    refine ⟨by omega, by omega, ?_⟩
    trivial
    rw [rngD_eq]
    refine forGo_pre PyData.int (rngI s) (fun pre en => ∃ (h : List T) (es : List Int) (x : Sl T), HandOk h ∧ es.Nodup ∧ (∀ v ∈ es, v ∈ pre) ∧ es.length ≤ pre.length ∧ en = [.io (tH h), .own (tI s), .own (lstT (es.map PyData.int)), x]) ?_ ?_ ?_
    · exact ⟨h', [], .un, hh', List.nodup_nil, (fun _ h => nomatch h), Nat.le_refl _, rfl⟩
    · rintro pre v post en K hx hK ⟨h2, es, x, hh2, hn, hm, hlen, rfl⟩
      have hlen2 := congrArg List.length hx
      rw [List.length_append, rngI_length] at hlen2
      have hnot : v ∉ pre := fun m => by
        have := rngI_nodup s
        rw [hx] at this
        exact (List.nodup_append.mp this).2.2 v m v (List.mem_cons_self ..) rfl
      trivial
      refine ⟨hh2, by decide, by decide, fun r h3 hh3 g1 g2 => ?_⟩
      trivial
      split
      · trivial
        refine ⟨lt_sz (by rw [List.length_map, List.length_map]; omega), ?_⟩
        exact hK _ ⟨h3, es ++ [v], _, hh3, List.nodup_append.mpr ⟨hn, by simp, fun a ha b hb e => by
          have : b = v := by simpa using hb
          rw [e, this] at ha
          exact hnot (hm _ ha)⟩, fun u hu => by
            rcases List.mem_append.mp hu with h | h
            · exact List.mem_append_left _ (hm u h)
            · exact List.mem_append_right _ h, by simp; omega, by rw [snoc_lst]; rfl⟩
      · exact hK _ ⟨h3, es, _, hh3, hn, fun u hu => List.mem_append_left _ (hm u hu), by simp; omega, rfl⟩
    · rintro en ⟨h2, es, x, hh2, hn, hm, hlen, rfl⟩
      trivial
      exact mid h2 es _ hh2 hn (fun v hv => mem_rngI.mp (hm v hv)) h
theorem p_picked : ∀ ts R, S__law_picked ts R → w__law_picked (endsOf ts R) (startD 4 ts) := by
  rintro ts R ⟨h, ss, rfl, hh, hl, hR⟩
  trivial
  unfold w__law_picked_1
  trivial
  refine forGo_pre encS ss (fun pre en => ∃ (h : List T) (ps : List St) (x : Sl T), HandOk h ∧ ps.Sublist pre ∧ en = [.io (tH h), .own (tSs ss), .own (nSs ps), x]) ?_ ?_ ?_
  · exact ⟨h, [], .un, hh, List.Sublist.refl _, rfl⟩
  · rintro pre v post en K hx hK ⟨h2, ps, x, hh2, hs, rfl⟩
    have hlen := congrArg List.length hx
    rw [List.length_append] at hlen
    have hle := hs.length_le
    trivial
    refine ⟨hh2, by decide, by decide, fun r h3 hh3 g1 g2 => ?_⟩
    trivial
    split
    · trivial
      refine ⟨lt_sz (by rw [List.length_map, List.length_map]; omega), ?_⟩
      exact hK _ ⟨h3, ps ++ [v], _, hh3, List.Sublist.append hs (List.Sublist.refl _), by rw [show nSs (ps ++ [v]) = _ from snoc_lst encS ps v]; rfl⟩
    · exact hK _ ⟨h3, ps, _, hh3, hs.trans (List.sublist_append_left _ _), rfl⟩
  · rintro en ⟨h2, ps, x, hh2, hs, rfl⟩
    trivial
    unfold w__law_picked_2
    trivial
    exact hR ps h2 hh2 hs
theorem p_number : ∀ ts R, S__law_is_number ts R → w__law_is_number (endsOf ts R) (startD 1 ts) := by
  rintro ts R ⟨i, rfl, hR⟩
  trivial
  exact hR
theorem p_numbers : ∀ ts R, S__law_are_numbers ts R → w__law_are_numbers (endsOf ts R) (startD 2 ts) := by
  rintro ts R ⟨s, rfl, hR⟩
  trivial
  unfold w__law_are_numbers_1
  trivial
  refine forGo_pre PyData.int s (fun pre en => ∃ x, en = [.own (tS s), x]) ⟨_, rfl⟩ ?_ ?_
  · rintro pre v post en K hx hK ⟨x, rfl⟩
    trivial
    exact hK _ ⟨_, rfl⟩
  · rintro en ⟨x, rfl⟩
    trivial
    unfold w__law_are_numbers_2
    trivial
    exact hR
theorem p_states : ∀ ts R, S__law_are_states ts R → w__law_are_states (endsOf ts R) (startD 2 ts) := by
  rintro ts R ⟨ss, rfl, hR⟩
  trivial
  unfold w__law_are_states_1
  trivial
  refine forGo_pre encS ss (fun pre en => ∃ x : Sl T, en = [.out true, x]) ⟨_, rfl⟩ ?_ ?_
  · rintro pre v post en K hx hK ⟨x, rfl⟩
    trivial
    exact hK _ ⟨_, rfl⟩
  · rintro en ⟨x, rfl⟩
    trivial
    unfold w__law_are_states_2
    trivial
    exact hR
theorem p_boxes : ∀ ts R, S__law_are_boxes ts R → w__law_are_boxes (endsOf ts R) (startD 3 ts) := by
  rintro ts R ⟨bs, rfl, hR⟩
  trivial
  unfold w__law_are_boxes_1
  trivial
  refine forGo_pre encB bs (fun pre en => ∃ x y : Sl T, en = [.out true, x, y]) ⟨_, _, rfl⟩ ?_ ?_
  · rintro pre b post en K hx hK ⟨x, y, rfl⟩
    trivial
    unfold w__law_are_boxes_j1
    trivial
    refine forGo_pre encS b (fun pre en => ∃ y : Sl T, en = [.out true, .own (.dat (encB b)), y]) ⟨_, rfl⟩ ?_ ?_
    · rintro pre v post en K hx hK ⟨y, rfl⟩
      trivial
      exact hK _ ⟨_, rfl⟩
    · rintro en ⟨y, rfl⟩
      exact hK _ ⟨_, _, rfl⟩
  · rintro en ⟨x, y, rfl⟩
    trivial
    unfold w__law_are_boxes_2
    trivial
    exact hR
theorem p_known : ∀ ts R, S__law_known ts R → w__law_known (endsOf ts R) (startD 3 ts) := by
  rintro ts R ⟨ss, rfl, hn, hl, hR⟩
  trivial
  unfold w__law_known_1
  trivial
  refine forGo_pre encS ss (fun pre en => ∃ x : Sl T, en = [.own (tSs ss), .own (tK pre), x]) ⟨.un, rfl⟩ ?_ ?_
  · rintro pre v post en K hx hK ⟨x, rfl⟩
    have hlen := congrArg List.length hx
    rw [List.length_append] at hlen
    have hnot : v ∉ pre := fun m => by
      rw [hx] at hn
      exact (List.nodup_append.mp hn).2.2 v m v (List.mem_cons_self ..) rfl
    trivial
    refine ⟨encS v, keyS v, rfl, keyS_ok v, lt_sz (by rw [List.length_map]; omega), ?_⟩
    refine hK _ ⟨.own (tS v), ?_⟩
    have hk : keyS v ∉ pre.map keyS := fun m => by
      obtain ⟨u, hu, e⟩ := List.mem_map.mp m
      rw [keyS_inj e] at hu
      exact hnot hu
    have e1 : putKs (pre.map keyS) (keyS v) = (pre ++ [v]).map keyS := by unfold putKs; rw [if_neg hk, List.map_append]; rfl
    have e2 : putVs (pre.map keyS) (pre.map fun _ => tB true) (keyS v) (tB true) = (pre ++ [v]).map fun _ => tB true := by unfold putVs; rw [if_neg hk, List.map_append]; rfl
    have e3 : tK (pre ++ [v]) = .nd (.dic true (putKs (pre.map keyS) (keyS v))) (putVs (pre.map keyS) (pre.map fun _ => tB true) (keyS v) (tB true)) := by rw [e1, e2]
    rw [e3]
    rfl
  · rintro en ⟨x, rfl⟩
    trivial
    unfold w__law_known_2
    trivial
    exact hR
theorem any_ints (e : List Int) (v : Int) : ((e.map PyData.int).any fun z => PyData.eqv z (.int v)) = decide (v ∈ e) := by
  rw [List.any_map]
  have : ((fun z => PyData.eqv z (.int v)) ∘ PyData.int) = fun a => decide (a = v) := funext fun a => eqv_int a v
  rw [this, Bool.eq_iff_iff, List.any_eq_true, decide_eq_true_eq]
  constructor
  · rintro ⟨a, ha, e⟩
    rw [← of_decide_eq_true e]; exact ha
  · intro h
    exact ⟨v, h, by simp⟩
theorem flat_ints (e : List Int) : (e.map PyData.int).all flatD = true := by
  rw [List.all_eq_true]
  intro x hx
  obtain ⟨a, _, rfl⟩ := List.mem_map.mp hx
  rfl
theorem inOk_ints {y : T} (e : List Int) (v : Int) : InOk y (.int v) (e.map PyData.int) := .inl ⟨rfl, flat_ints e⟩
theorem inB_zip : ∀ {b : Bx} {s : St}, b.length = s.length → inB b s = (b.zip s).all fun p => decide (p.2 ∈ p.1)
  | [], [], _ => rfl
  | [], _ :: _, h => by cases h
  | _ :: _, [], h => by cases h
  | e :: b, v :: s, h => by
    rw [List.zip_cons_cons, List.all_cons, inB, inB_zip (by simpa using h)]
theorem zip_enc (b : Bx) (s : St) : zipD (b.map encS) (s.map PyData.int) = (b.zip s).map fun p => .tuple [encS p.1, .int p.2] := by
  unfold zipD
  rw [List.zipWith_map, List.zip_eq_zipWith, List.map_zipWith]
theorem p_in_box : ∀ ts R, S__in_box ts R → w__in_box (endsOf ts R) (startD 4 ts) := by
  rintro ts R ⟨b, s, rfl, hl, hR⟩
  trivial
  rw [zip_enc]
  refine forGo_pre (fun p : List Int × Int => PyData.tuple [encS p.1, .int p.2]) (b.zip s) (fun pre en => (∀ p ∈ pre, p.2 ∈ p.1) ∧ ∃ x y : Sl T, en = [.own (.dat (encB b)), .own (tS s), x, y]) ⟨(fun _ h => nomatch h), _, _, rfl⟩ ?_ ?_
  · rintro pre p post en K hx hK ⟨hp, x, y, rfl⟩
    trivial
    refine ⟨inOk_ints _ _, ?_⟩
    rw [any_ints]
    trivial
    split
    · rename_i h
      trivial
      have : inB b s = false := by
        rw [inB_zip hl, hx, List.all_append, List.all_cons]
        have : decide (p.2 ∈ p.1) = false := by simpa using h
        rw [this]; simp
      rw [this] at hR
      exact hR
    · rename_i h
      trivial
      have h' : p.2 ∈ p.1 := by simpa using h
      exact hK _ ⟨fun q hq => by
        rcases List.mem_append.mp hq with g | g
        · exact hp q g
        · rw [List.mem_singleton.mp g]; exact h', _, _, rfl⟩
  · rintro en ⟨hp, x, y, rfl⟩
    trivial
    unfold w__in_box_1
    trivial
    have : inB b s = true := by
      rw [inB_zip hl, List.all_eq_true]
      exact fun q hq => decide_eq_true (hp q hq)
    rw [this] at hR
    exact hR
theorem p_inside : ∀ ts R, S_inside ts R → w_inside (endsOf ts R) (startD 3 ts) := by
  rintro ts R ⟨bs, s, rfl, hl, hR⟩
  trivial
  refine forGo_pre encB bs (fun pre en => (∀ b ∈ pre, inB b s = false) ∧ ∃ x : Sl T, en = [.own (tBs bs), .own (tS s), x]) ⟨(fun _ h => nomatch h), _, rfl⟩ ?_ ?_
  · rintro pre b post en K hx hK ⟨hp, x, rfl⟩
    trivial
    refine ⟨hl b (by rw [hx]; simp), ?_⟩
    trivial
    split
    · rename_i h
      trivial
      have : inAny bs s = true := inAny_iff.mpr ⟨b, by rw [hx]; simp, h⟩
      rw [this] at hR
      exact hR
    · rename_i h
      trivial
      exact hK _ ⟨fun q hq => by
        rcases List.mem_append.mp hq with g | g
        · exact hp q g
        · rw [List.mem_singleton.mp g]; exact h, _, rfl⟩
  · rintro en ⟨hp, x, rfl⟩
    trivial
    unfold w_inside_1
    trivial
    have : inAny bs s = false := by
      rw [← Bool.not_eq_true, inAny_iff]
      rintro ⟨b, hb, e⟩
      rw [hp b hb] at e; cases e
    rw [this] at hR
    exact hR
theorem inB_range {b : Bx} {s : St} (h : b.length = s.length) : inB b s = (List.range s.length).all fun i => decide (s.getD i 0 ∈ b.getD i []) := by
  rw [inB_zip h, Bool.eq_iff_iff, List.all_eq_true, List.all_eq_true]
  constructor
  · intro hz i hi
    have hi := List.mem_range.mp hi
    have := hz (b.getD i [], s.getD i 0) (by
      refine List.mem_iff_getElem?.mpr ⟨i, ?_⟩
      rw [List.getElem?_zip_eq_some]
      rw [List.getD_eq_getElem?_getD, List.getD_eq_getElem?_getD, List.getElem?_eq_getElem hi, List.getElem?_eq_getElem (by rw [h]; exact hi)]
      exact ⟨rfl, rfl⟩)
    exact this
  · intro hz p hp
    obtain ⟨i, hi⟩ := List.mem_iff_getElem?.mp hp
    obtain ⟨h1, h2⟩ := List.getElem?_zip_eq_some.mp hi
    have := hz i (List.mem_range.mpr (List.getElem?_eq_some_iff.mp h2).1)
    rw [List.getD_eq_getElem?_getD, List.getD_eq_getElem?_getD, h1, h2] at this
    exact this
theorem p_holds : ∀ ts R, S__law_holds ts R → w__law_holds (endsOf ts R) (startD 5 ts) := by
  rintro ts R ⟨bs, s, rfl, hl, hs8, hR⟩
  trivial
  refine forGo_pre encB bs (fun pre en => (∀ b ∈ pre, inB b s = false) ∧ ∃ x y z : Sl T, en = [.own (tBs bs), .own (tS s), x, y, z]) ⟨(fun _ h => nomatch h), _, _, _, rfl⟩ ?_ ?_
  · rintro pre b post en K hx hK ⟨hp, x, y, z, rfl⟩
    have hb : b.length = s.length := hl b (by rw [hx]; simp)
    trivial
    rw [List.length_map, List.length_map]
    refine ⟨by omega, by omega, ?_⟩
    trivial
    rw [rngD_nat]
    refine lcGo_pre (fun i : Nat => PyData.int ((i : Nat) : Int)) (List.range s.length) (fun pre acc en => acc = ((pre.filter fun i => decide (s.getD i 0 ∈ b.getD i [])).map fun i : Nat => PyData.int ((i : Nat) : Int)).map T.dat ∧ ∃ u : Sl T, en = [.own (tBs bs), .own (tS s), .own (.dat (encB b)), u, .un]) ⟨rfl, _, rfl⟩ ?_ ?_
    · rintro pre2 i post2 acc en K2 hx2 hK2 ⟨rfl, u, rfl⟩
      have hi : i < s.length := List.mem_range.mp (by rw [hx2]; simp)
      have hlen2 := congrArg List.length hx2
      rw [List.length_append, List.length_range] at hlen2
      trivial
      refine ⟨i, _, by rw [List.length_map, List.length_map]; exact ixN_nat hi, by rw [md_map]; exact getD_at s _ 0 hi, ?_⟩
      trivial
      refine ⟨i, _, by rw [List.length_map, List.length_map]; exact ixN_nat (by rw [hb]; exact hi), by rw [md_map]; exact getD_at b _ [] (by rw [hb]; exact hi), ?_⟩
      trivial
      refine ⟨inOk_ints _ _, ?_⟩
      trivial
      rw [any_ints]
      split
      · rename_i h
        rw [if_neg Bool.false_ne_true] at h
        trivial
        have hfl := List.length_filter_le (fun i => decide (s.getD i 0 ∈ b.getD i [])) pre2
        refine ⟨lt_sz (by rw [List.length_map, List.length_map]; omega), ?_⟩
        refine hK2 _ _ ⟨?_, _, rfl⟩
        rw [List.filter_append, List.filter_cons, if_pos h]
        simp
      · rename_i h
        rw [if_neg Bool.false_ne_true] at h
        refine hK2 _ _ ⟨?_, _, rfl⟩
        rw [List.filter_append, List.filter_cons, if_neg (by rw [h]; simp)]
        simp
    · rintro acc en ⟨rfl, u, rfl⟩
      trivial
      rw [List.length_map, List.length_map, List.length_map, List.length_map, eqv_int]
      trivial
      split
      · rename_i h
        have h := of_decide_eq_true h
        trivial
        have : inAny bs s = true := inAny_iff.mpr ⟨b, by rw [hx]; simp, by
          rw [inB_range hb, List.all_eq_true]
          have h2 : ((List.range s.length).filter fun i => decide (s.getD i 0 ∈ b.getD i [])).length = (List.range s.length).length := by rw [List.length_range]; omega
          exact List.length_filter_eq_length_iff.mp h2⟩
        rw [this] at hR
        exact hR
      · rename_i h
        have h := of_decide_eq_false h
        trivial
        exact hK _ ⟨fun q hq => by
          rcases List.mem_append.mp hq with g | g
          · exact hp q g
          · rw [List.mem_singleton.mp g, ← Bool.not_eq_true, inB_range hb, List.all_eq_true]
            intro hall
            refine h ?_
            have := List.length_filter_eq_length_iff.mpr hall
            rw [List.length_range] at this
            omega, _, _, _, rfl⟩
  · rintro en ⟨hp, x, y, z, rfl⟩
    trivial
    unfold w__law_holds_1
    trivial
    have : inAny bs s = false := by
      rw [← Bool.not_eq_true, inAny_iff]
      rintro ⟨b, hb, e⟩
      rw [hp b hb] at e; cases e
    rw [this] at hR
    exact hR
end R09

set_option maxRecDepth 100000
set_option maxHeartbeats 0
namespace R09
open PySem PySem.Spec PyProof.Rows L2 DL

local macro_rules | `(tactic| trivial) => `(tactic| ((conv => whnf); first | (refine ⟨_, _, rfl, rfl, ?_⟩; trivial) | (refine ⟨rfl, rfl, ?_⟩; trivial) | (refine ⟨_, rfl, ?_⟩; trivial) | (refine ⟨_, _, rfl, ?_⟩; trivial) | (refine ⟨Nat.zero_le _, ?_⟩; trivial) | (rw [lst_data]; trivial) | (rw [lst_sqK]; trivial) | (rw [lst_sqD]; trivial) | (rw [lst_lsD]; trivial) | (rw [lst_lsK]; trivial) | skip))
theorem rowsB_snoc (b : Bx) (e : List Int) : rowsB (b ++ [e]) = (rowsB b).flatMap fun r => e.map fun v => r ++ [v] := by
  induction b with
  | nil => simp [rowsB]; induction e with
    | nil => rfl
    | cons v e ih => simp [ih]
  | cons x b ih =>
    show (x.flatMap fun v => (rowsB (b ++ [e])).map (v :: ·)) = (x.flatMap fun v => (rowsB b).map (v :: ·)).flatMap _
    rw [List.flatMap_assoc]
    congr 1
    funext v
    rw [ih, List.map_flatMap, List.flatMap_map]
    congr 1
    funext r
    rw [List.map_map]
    rfl
theorem rowsB_length (b : Bx) : (rowsB b).length = (b.map List.length).prod := by
  induction b with
  | nil => rfl
  | cons e b ih =>
    show (e.flatMap fun v => (rowsB b).map (v :: ·)).length = _
    rw [List.length_flatMap, List.map_cons, List.prod_cons, ← ih]
    have : (e.map fun v => ((rowsB b).map (v :: ·)).length) = e.map fun _ => (rowsB b).length := List.map_congr_left fun v _ => by rw [List.length_map]
    rw [this]
    induction e with
    | nil => simp
    | cons v e ih2 => rw [List.map_cons, List.sum_cons, ih2 (by exact List.map_congr_left fun v _ => by rw [List.length_map]), List.length_cons]; rw [Nat.add_mul]; omega
theorem rowsB_len {b : Bx} {s : St} (h : s ∈ rowsB b) : s.length = b.length := inB_len ((mem_rowsB b s).mp h)
theorem every_length (z : List Int) : (every z).length = (z.map Int.toNat).prod := by
  unfold every
  rw [rowsB_length, List.map_map]
  congr 1
  exact List.map_congr_left fun s _ => rngI_length s
theorem prod_pos : ∀ {l : List Nat}, (∀ x ∈ l, 1 ≤ x) → 1 ≤ l.prod
  | [], _ => Nat.le_refl _
  | x :: l, h => by
    rw [List.prod_cons]
    exact Nat.mul_pos (h x (List.mem_cons_self ..)) (prod_pos fun y hy => h y (List.mem_cons_of_mem _ hy))
theorem prod_pre {l m : List Nat} (h : ∀ x ∈ l ++ m, 1 ≤ x) : l.prod ≤ (l ++ m).prod := by
  rw [List.prod_append]
  have := prod_pos fun x hx => h x (List.mem_append_right _ hx)
  exact Nat.le_mul_of_pos_right _ this
theorem encS_snoc (r : St) (v : Int) : encS (r ++ [v]) = .tuple (r.map PyData.int ++ [.int v]) := by unfold encS; rw [List.map_append]; rfl
theorem flat_len {α β : Type} (l : List α) (n : Nat) (f : α → List β) (h : ∀ a ∈ l, (f a).length = n) : (l.flatMap f).length = l.length * n := by
  induction l with
  | nil => simp
  | cons a l ih => rw [List.flatMap_cons, List.length_append, h a (List.mem_cons_self ..), ih fun b hb => h b (List.mem_cons_of_mem _ hb), List.length_cons, Nat.add_mul]; omega
theorem p_rows : ∀ ts R, S__law_rows ts R → w__law_rows (endsOf ts R) (startD 6 ts) := by
  rintro ts R ⟨z, rfl, hr, hz8, hpr, h1, hR⟩
  have hle : ∀ pre post, z = pre ++ post → (every pre).length ≤ 1024 := fun pre post e => by
    rw [every_length]
    refine Nat.le_trans ?_ hpr
    rw [e, List.map_append]
    refine prod_pre fun x hx => ?_
    rw [← List.map_append, ← e] at hx
    obtain ⟨s, hs, rfl⟩ := List.mem_map.mp hx
    have := h1 s hs
    omega
  trivial
  refine ⟨le_sz (n := 1) (by decide), ?_⟩
  trivial
  unfold w__law_rows_1
  trivial
  refine forGo_pre PyData.int z (fun pre en => ∃ u2 u3 u4 u5 : Sl T, en = [.own (tS z), .own (nSs (every pre)), u2, u3, u4, u5]) ⟨_, _, _, _, rfl⟩ ?_ ?_
  · rintro pre s post en K hx hK ⟨u2, u3, u4, u5, rfl⟩
    have hs := hr s (by rw [hx]; simp)
    have hs1 := h1 s (by rw [hx]; simp)
    have hle1 := hle pre (s :: post) hx
    have hpre : pre.length ≤ 8 := by have := congrArg List.length hx; rw [List.length_append] at this; omega
    trivial
    refine forGo_pre encS (every pre) (fun pre2 en => ∃ u4 u5 : Sl T, en = [.own (tS z), .out true, .own (tI s), .own (nSs (pre2.flatMap fun r => (rngI s).map fun v => r ++ [v])), u4, u5]) ⟨_, _, rfl⟩ ?_ ?_
    · rintro pre2 r post2 en K2 hx2 hK2 ⟨u4, u5, rfl⟩
      have hlen2 := congrArg List.length hx2
      rw [List.length_append, List.length_cons] at hlen2
      have hrl : r.length = pre.length := by
        have : r ∈ every pre := by rw [hx2]; simp
        have := rowsB_len this
        rw [List.length_map] at this
        exact this
      trivial
      refine ⟨by omega, by omega, ?_⟩
      trivial
      rw [rngD_eq]
      refine forGo_pre PyData.int (rngI s) (fun pre3 en => ∃ u5 : Sl T, en = [.own (tS z), .out true, .own (tI s), .own (nSs ((pre2.flatMap fun r => (rngI s).map fun v => r ++ [v]) ++ pre3.map fun v => r ++ [v])), .own (tS r), u5]) ⟨_, by rw [List.map_nil, List.append_nil]; rfl⟩ ?_ ?_
      · rintro pre3 v post3 en K3 hx3 hK3 ⟨u5, rfl⟩
        have hlen3 := congrArg List.length hx3
        rw [List.length_append, List.length_cons, rngI_length] at hlen3
        have hfl := flat_len pre2 s.toNat (fun r => (rngI s).map fun v => r ++ [v]) fun r _ => by rw [List.length_map, rngI_length]
        trivial
        refine ⟨le_sz (n := 1) (by decide), ?_⟩
        trivial
        refine ⟨le_sz (by rw [List.length_map]; show r.length + 1 ≤ _; omega), ?_⟩
        trivial
        refine ⟨lt_sz ?_, ?_⟩
        · rw [List.length_map, List.length_map, List.length_append, hfl, List.length_map]
          have : pre2.length * s.toNat ≤ 1024 * 16 := Nat.mul_le_mul (by omega) (by omega)
          omega
        · refine hK3 _ ⟨.own (tI v), ?_⟩
          have e : nSs ((pre2.flatMap fun r => (rngI s).map fun v => r ++ [v]) ++ (pre3 ++ [v]).map fun v => r ++ [v]) = .nd .lst ((((pre2.flatMap fun r => (rngI s).map fun v => r ++ [v]) ++ pre3.map fun v => r ++ [v]).map encS).map T.dat ++ [.dat (encS (r ++ [v]))]) := by
            rw [List.map_append (l₁ := pre3), List.map_singleton, ← List.append_assoc]
            exact snoc_lst encS _ _
          rw [e, encS_snoc]
          rfl
      · rintro en ⟨u5, rfl⟩
        exact hK2 _ ⟨_, _, by rw [List.flatMap_append, List.flatMap_singleton]⟩
    · rintro en ⟨u4, u5, rfl⟩
      trivial
      unfold w__law_rows_j1
      trivial
      have e : every (pre ++ [s]) = (every pre).flatMap fun r => (rngI s).map fun v => r ++ [v] := by unfold every; rw [List.map_append, List.map_singleton, rowsB_snoc]
      rw [e] at hK
      exact hK _ ⟨_, _, _, _, rfl⟩
  · rintro en ⟨u2, u3, u4, u5, rfl⟩
    trivial
    unfold w__law_rows_2
    trivial
    exact hR
theorem p_differs : ∀ ts R, S__law_differs ts R → w__law_differs (endsOf ts R) (startD 6 ts) := by
  rintro ts R ⟨z, ss, k, rfl, hk, hz, hl, hz8, hR⟩
  have hzk := hz (z.getD k 0) (by rw [List.getD_eq_getElem?_getD, List.getElem?_eq_getElem hk]; exact List.getElem_mem hk)
  trivial
  refine forGo_pre encS ss (fun pre en => (∀ s ∈ pre, ∀ v ∈ rngI (z.getD k 0), s.set k v ∈ ss) ∧ ∃ u4 u5 : Sl T, en = [.own (tS z), .io (tK ss), .own (tSs ss), .own (tI k), u4, u5]) ⟨(fun _ h => nomatch h), _, _, rfl⟩ ?_ ?_
  · rintro pre s post en K hx hK ⟨hp, u4, u5, rfl⟩
    have hs : s ∈ ss := by rw [hx]; simp
    have hsl := hl s hs
    trivial
    refine ⟨k, _, by rw [List.length_map, List.length_map]; exact ixN_nat hk, by rw [md_map]; exact getD_at z _ 0 hk, ?_⟩
    trivial
    refine ⟨by omega, by omega, ?_⟩
    trivial
    rw [rngD_eq]
    refine forGo_pre PyData.int (rngI (z.getD k 0)) (fun pre2 en => (∀ v ∈ pre2, s.set k v ∈ ss) ∧ ∃ u5 : Sl T, en = [.own (tS z), .io (tK ss), .own (tSs ss), .own (tI k), .own (tS s), u5]) ⟨(fun _ h => nomatch h), _, rfl⟩ ?_ ?_
    · rintro pre2 v post2 en K2 hx2 hK2 ⟨hp2, u5, rfl⟩
      trivial
      refine ⟨le_sz (n := 1) (by decide), ?_⟩
      trivial
      rw [cut_upto]
      refine ⟨le_sz (by rw [List.length_take, List.length_map]; show _ + 1 ≤ _; omega), ?_⟩
      trivial
      rw [show ((k : Int) + 1) = ((k + 1 : Nat) : Int) from rfl, cut_from]
      refine ⟨le_sz (by rw [List.length_append, List.length_take, List.length_drop, List.length_map]; show _ + 1 + _ ≤ _; omega), ?_⟩
      trivial
      have hset : s.set k v = s.take k ++ v :: s.drop (k + 1) := by rw [List.set_eq_take_append_cons_drop, if_pos (by rw [hsl]; exact hk)]
      have e : PyData.tuple (List.take k (s.map PyData.int) ++ [PyData.int v] ++ List.drop (k + 1) (s.map PyData.int)) = encS (s.set k v) := by
        rw [hset]; unfold encS; simp [List.map_take, List.map_drop]
      rw [e]
      refine ⟨_, keyS _, rfl, keyS_ok _, ?_⟩
      trivial
      have hmem : (decide (keyS (s.set k v) ∈ ss.map keyS)) = decide (s.set k v ∈ ss) := by
        refine decide_eq_decide.mpr ⟨fun m => ?_, fun m => List.mem_map.mpr ⟨_, m, rfl⟩⟩
        obtain ⟨u, hu, e⟩ := List.mem_map.mp m
        rw [← keyS_inj e]; exact hu
      rw [hmem]
      split
      · rename_i h
        have h : (!decide (s.set k v ∈ ss)) = true := h
        trivial
        have : difF z ss k = true := by
          unfold difF
          rw [List.any_eq_true]
          refine ⟨s, hs, ?_⟩
          rw [List.any_eq_true]
          exact ⟨v, by rw [hx2]; simp, h⟩
        rw [this] at hR
        exact hR
      · rename_i h
        have h : (!decide (s.set k v ∈ ss)) = false := h
        exact hK2 _ ⟨fun q hq => by
          rcases List.mem_append.mp hq with g | g
          · exact hp2 q g
          · rw [List.mem_singleton.mp g]; simpa using h, _, rfl⟩
    · rintro en ⟨hp2, u5, rfl⟩
      exact hK _ ⟨fun q hq => by
        rcases List.mem_append.mp hq with g | g
        · exact hp q g
        · rw [List.mem_singleton.mp g]; exact hp2, _, _, rfl⟩
  · rintro en ⟨hp, u4, u5, rfl⟩
    trivial
    unfold w__law_differs_1
    trivial
    have : difF z ss k = false := by
      rw [← Bool.not_eq_true]
      unfold difF
      rw [List.any_eq_true]
      rintro ⟨s, hs, h⟩
      rw [List.any_eq_true] at h
      obtain ⟨v, hv, h⟩ := h
      have := hp s hs v hv
      simp [this] at h
    rw [this] at hR
    exact hR
end R09

set_option maxRecDepth 100000
set_option maxHeartbeats 0
namespace R09
open PySem PySem.Spec PyProof.Rows L2 DL

local macro_rules | `(tactic| trivial) => `(tactic| ((conv => whnf); first | (refine ⟨_, _, rfl, rfl, ?_⟩; trivial) | (refine ⟨rfl, rfl, ?_⟩; trivial) | (refine ⟨_, rfl, ?_⟩; trivial) | (refine ⟨_, _, rfl, ?_⟩; trivial) | (refine ⟨Nat.zero_le _, ?_⟩; trivial) | (rw [lst_data]; trivial) | (rw [lst_sqK]; trivial) | (rw [lst_sqD]; trivial) | (rw [lst_lsD]; trivial) | (rw [lst_lsK]; trivial) | skip))
theorem p_seen : ∀ ts R, S__law_seen ts R → w__law_seen (endsOf ts R) (startD 4 ts) := by
  rintro ts R ⟨z, ss, rfl, hn, hl, hz, hal, hz8, hR⟩
  trivial
  refine ⟨hn, hl, ?_⟩
  trivial
  unfold w__law_seen_1
  trivial
  rw [List.length_map, List.length_map]
  refine ⟨by omega, by omega, ?_⟩
  trivial
  rw [rngD_nat]
  refine lcGo_pre (fun i : Nat => PyData.int ((i : Nat) : Int)) (List.range z.length) (fun pre acc en => acc = ((pre.filter (difF z ss)).map fun i : Nat => PyData.int ((i : Nat) : Int)).map T.dat ∧ en = [.own (tS z), .own (tSs ss), .own (tK ss), .un]) ⟨rfl, rfl⟩ ?_ ?_
  · rintro pre i post acc en K hx hK ⟨rfl, rfl⟩
    have hi : i < z.length := List.mem_range.mp (by rw [hx]; simp)
    have hlen := congrArg List.length hx
    rw [List.length_append, List.length_range] at hlen
    trivial
    refine ⟨z, ss, i, rfl, hi, hz, hal, hz8, ?_⟩
    trivial
    split
    · rename_i h
      trivial
      have hfl := List.length_filter_le (difF z ss) pre
      refine ⟨lt_sz (by rw [List.length_map, List.length_map]; omega), ?_⟩
      refine hK _ _ ⟨?_, rfl⟩
      rw [List.filter_append, List.filter_cons, if_pos h]
      simp
    · rename_i h
      refine hK _ _ ⟨?_, rfl⟩
      rw [List.filter_append, List.filter_cons, if_neg (by rw [h]; simp)]
      simp
  · rintro acc en ⟨rfl, rfl⟩
    trivial
    exact hR
theorem of_pick {α : Type} {l : List α} {x : α} {lo hi st : Option Int} (h : x ∈ pick l lo hi st) : x ∈ l := by
  unfold pick at h
  obtain ⟨i, _, e⟩ := List.mem_filterMap.mp h
  exact List.mem_of_getElem? e
/-- a list's items at odd places and at even places -/
theorem mem_pick {α : Type} (l : List α) (x : α) : x ∈ pick l (some 1) none (some 2) ++ pick l none none (some 2) ↔ x ∈ l := by
  rw [List.mem_append]
  constructor
  · rintro (h | h) <;> exact of_pick h
  · intro h
    obtain ⟨i, hi⟩ := List.mem_iff_getElem?.mp h
    have hl := (List.getElem?_eq_some_iff.mp hi).1
    by_cases ho : i % 2 = 1
    · refine .inl (List.mem_filterMap.mpr ⟨i, ?_, hi⟩)
      have e1 : sliceBounds (some 1) none (some 2) l.length = (max 0 (min 1 (l.length : Int)), (l.length : Int), 2) := rfl
      rw [e1]
      unfold sliceRange
      refine List.mem_map.mpr ⟨(i - 1) / 2, List.mem_range.mpr ?_, ?_⟩
      · rw [if_pos (show (2:Int) > 0 by decide), if_pos (by show max 0 (min 1 (l.length : Int)) < l.length; omega)]
        show (i-1)/2 < (((l.length : Int) - max 0 (min 1 (l.length : Int)) + 2 - 1) / 2).toNat
        omega
      · show (max 0 (min 1 (l.length : Int)) + 2 * (((i - 1) / 2 : Nat) : Int)).toNat = i
        omega
    · refine .inr (List.mem_filterMap.mpr ⟨i, ?_, hi⟩)
      have e1 : sliceBounds none none (some 2) l.length = (0, (l.length : Int), 2) := rfl
      rw [e1]
      unfold sliceRange
      refine List.mem_map.mpr ⟨i / 2, List.mem_range.mpr ?_, ?_⟩
      · rw [if_pos (show (2:Int) > 0 by decide), if_pos (by show (0 : Int) < l.length; omega)]
        show i/2 < (((l.length : Int) - 0 + 2 - 1) / 2).toNat
        omega
      · show (0 + 2 * ((i / 2 : Nat) : Int)).toNat = i
        omega
theorem mem_pickr {α : Type} (l : List α) (x : α) : x ∈ pick l none none (some (-1)) ↔ x ∈ l := by
  constructor
  · exact of_pick
  · intro h
    obtain ⟨i, hi⟩ := List.mem_iff_getElem?.mp h
    have hl := (List.getElem?_eq_some_iff.mp hi).1
    refine List.mem_filterMap.mpr ⟨i, ?_, hi⟩
    have e1 : sliceBounds none none (some (-1)) l.length = ((l.length : Int) - 1, -1, -1) := rfl
    rw [e1]
    unfold sliceRange
    refine List.mem_map.mpr ⟨l.length - 1 - i, List.mem_range.mpr ?_, ?_⟩
    · rw [if_neg (show ¬ ((-1:Int) > 0) by decide), if_pos (by show (l.length : Int) - 1 > -1; omega)]
      show l.length - 1 - i < (((l.length : Int) - 1 - -1 - -1 - 1) / 1).toNat
      omega
    · show ((l.length : Int) - 1 + -1 * ((l.length - 1 - i : Nat) : Int)).toNat = i
      omega
theorem pick_map {α β : Type} (f : α → β) (l : List α) (lo hi st : Option Int) : pick (l.map f) lo hi st = (pick l lo hi st).map f := by
  unfold pick
  rw [List.length_map, List.map_filterMap]
  congr 1
  funext i
  rw [List.getElem?_map]
theorem pick_le {α : Type} (l : List α) (lo hi st : Option Int) : (pick l lo hi st).length ≤ l.length := pick_len l lo hi st (List.replicate l.length .none) (by simp)
theorem of_cut {α : Type} {l : List α} {x : α} {lo hi : Option Int} (h : x ∈ cut l lo hi) : x ∈ l := by
  unfold cut at h
  exact List.mem_of_mem_drop (List.mem_of_mem_take h)
theorem p_mixed : ∀ ts R, S__law_mixed ts R → w__law_mixed (endsOf ts R) (startD 5 ts) := by
  rintro ts R ⟨h0, ss, rfl, hh0, hl, hR⟩
  have s5 : ∀ (h : List T) (rows : List St) (u3 u4 : Sl T), HandOk h → (∀ s, s ∈ rows ↔ s ∈ ss) → rows.length ≤ 8192 → w__law_mixed_5 (endsOf [tH h0, tSs ss] R) [.io (tH h), .own (tSs ss), .own (nSs rows), u3, u4] := by
    intro h rows u3 u4 hh hm hlen
    unfold w__law_mixed_5
    trivial
    refine ⟨hh, by decide, by decide, fun r h' hh' g1 g2 => ?_⟩
    trivial
    have hc := cut_length rows none (some r)
    rw [cut_map]
    refine ⟨le_sz (by rw [List.length_map, List.length_map]; omega), ?_⟩
    trivial
    rw [← List.map_append]
    refine hR _ h' hh' (fun s => ?_) (by rw [List.length_append]; omega)
    rw [List.mem_append, ← hm s]
    exact ⟨fun q => q.elim id of_cut, .inl⟩
  have s4 : ∀ (h : List T) (rows : List St) (u3 : Sl T) (r : Int), HandOk h → (∀ s, s ∈ rows ↔ s ∈ ss) → rows.length ≤ 4096 → w__law_mixed_4 (endsOf [tH h0, tSs ss] R) [.io (tH h), .own (tSs ss), .own (nSs rows), u3, .own (tI r)] := by
    intro h rows u3 r hh hm hlen
    unfold w__law_mixed_4
    trivial
    split
    · trivial
      refine ⟨by decide, ?_⟩
      trivial
      refine ⟨by decide, ?_⟩
      trivial
      rw [pick_map, pick_map, ← List.map_append]
      have h1 := pick_le rows (some 1) none (some 2)
      have h2 := pick_le rows none none (some 2)
      refine ⟨le_sz (by rw [List.length_map, List.length_map]; omega), ?_⟩
      trivial
      exact s5 h _ _ _ hh (fun s => by rw [mem_pick, hm]) (by rw [List.length_append]; omega)
    · trivial
      exact s5 h rows _ _ hh hm (by omega)
  have s3 : ∀ (h : List T) (rows : List St) (u3 : Sl T) (r : Int), HandOk h → (∀ s, s ∈ rows ↔ s ∈ ss) → rows.length ≤ 4096 → w__law_mixed_3 (endsOf [tH h0, tSs ss] R) [.io (tH h), .own (tSs ss), .own (nSs rows), u3, .own (tI r)] := by
    intro h rows u3 r hh hm hlen
    unfold w__law_mixed_3
    trivial
    split
    · trivial
      refine ⟨by decide, ?_⟩
      trivial
      rw [pick_map]
      have h2 := pick_le rows none none (some (-1))
      exact s4 h (pick rows none none (some (-1))) _ _ hh (fun s => by rw [mem_pickr, hm]) (by omega)
    · trivial
      exact s4 h rows _ _ hh hm (by omega)
  have s2 : ∀ (h : List T) (rows : List St) (u3 u4 : Sl T), HandOk h → (∀ s, s ∈ rows ↔ s ∈ ss) → rows.length ≤ 4096 → w__law_mixed_2 (endsOf [tH h0, tSs ss] R) [.io (tH h), .own (tSs ss), .own (nSs rows), u3, u4] := by
    intro h rows u3 u4 hh hm hlen
    unfold w__law_mixed_2
    trivial
    refine ⟨hh, by decide, by decide, fun r h' hh' g1 g2 => ?_⟩
    trivial
    exact s3 h' rows _ r hh' hm hlen
  trivial
  unfold w__law_mixed_1
  trivial
  refine ⟨shaped_Ss ss, shaped_nil, ?_⟩
  trivial
  split
  · rename_i h
    have hne : ss ≠ [] := fun e => by subst e; cases h
    have hpos : 1 ≤ ss.length := Nat.pos_of_ne_zero fun e => hne (List.eq_nil_of_length_eq_zero e)
    trivial
    rw [List.length_map, List.length_map]
    refine ⟨hh0, by omega, by omega, fun r h' hh' g1 g2 => ?_⟩
    trivial
    rw [cut_map, cut_map, ← List.map_append]
    obtain ⟨k, rfl⟩ : ∃ k : Nat, r = (k : Int) := ⟨r.toNat, by omega⟩
    rw [cut_from, cut_upto]
    have hk : k ≤ ss.length := by omega
    refine ⟨le_sz (by rw [List.length_map, List.length_map, List.length_drop, List.length_take]; omega), ?_⟩
    trivial
    refine s2 h' (ss.drop k ++ ss.take k) _ _ hh' (fun s => ?_) (by rw [List.length_append, List.length_drop, List.length_take]; omega)
    rw [List.mem_append, or_comm, ← List.mem_append, List.take_append_drop]
  · trivial
    exact s2 h0 ss _ _ hh0 (fun _ => Iff.rfl) hl
end R09

set_option maxRecDepth 100000
set_option maxHeartbeats 0
namespace R09
open PySem PySem.Spec PyProof.Rows L2 DL

local macro_rules | `(tactic| trivial) => `(tactic| ((conv => whnf); first | (refine ⟨_, _, rfl, rfl, ?_⟩; trivial) | (refine ⟨rfl, rfl, ?_⟩; trivial) | (refine ⟨_, rfl, ?_⟩; trivial) | (refine ⟨_, _, rfl, ?_⟩; trivial) | (refine ⟨Nat.zero_le _, ?_⟩; trivial) | (rw [lst_data]; trivial) | (rw [lst_sqK]; trivial) | (rw [lst_sqD]; trivial) | (rw [lst_lsD]; trivial) | (rw [lst_lsK]; trivial) | skip))
theorem szs_ok {z : List Int} (h : ∀ s ∈ z, 1 ≤ s ∧ s ≤ 16) {v : Int} (h1 : 1 ≤ v) (h2 : v ≤ 16) : ∀ s ∈ z ++ [v], 1 ≤ s ∧ s ≤ 16 := by
  intro s hs
  rcases List.mem_append.mp hs with q | q
  · exact h s q
  · rw [List.mem_singleton.mp q]; exact ⟨h1, h2⟩
theorem prod_snoc (z : List Int) (v : Int) (h : 0 ≤ v) : ((((z ++ [v]).map Int.toNat).prod : Nat) : Int) = ((z.map Int.toNat).prod : Nat) * v := by
  rw [List.map_append, List.prod_append, Int.natCast_mul]
  congr 1
  show (((v.toNat * 1 : Nat)) : Int) = v
  omega
theorem cmul_ok {p : Nat} {v : Int} (h : p ≤ 1024) (h1 : 1 ≤ v) (h2 : v ≤ 16) : CMul (p : Int) v := by
  unfold CMul
  omega
/-- what the loop keeps -/
structure SzI (h : List T) (z : List Int) (n : Nat) : Prop where
  hh : HandOk h
  len : z.length = n
  rng : ∀ s ∈ z, 1 ≤ s ∧ s ≤ 16
  prod : (z.map Int.toNat).prod ≤ 1024
def szE (b : Bool) (h : List T) (z : List Int) (x y : Sl T) : En := [.io (tH h), .own (tB b), .own (lstT (z.map PyData.int)), .own (tI ((z.map Int.toNat).prod : Nat)), x, y]
theorem szE_snoc {b : Bool} {h : List T} {z : List Int} {w : Int} {x y : Sl T} (hw : 0 ≤ w) : szE b h (z ++ [w]) x y = [.io (tH h), .own (tB b), .own (.nd .lst ((z.map PyData.int).map T.dat ++ [.dat (.int w)])), .own (tI (((z.map Int.toNat).prod : Nat) * w)), x, y] := by
  unfold szE
  rw [prod_snoc z w hw, snoc_lst PyData.int z w]
theorem szI_snoc {h h' : List T} {z : List Int} {n : Nat} {w : Int} (i : SzI h z n) (hh : HandOk h') (q1 : 1 ≤ w) (q2 : w ≤ 16) (q3 : ((z.map Int.toNat).prod : Nat) * w ≤ 1024) : SzI h' (z ++ [w]) (n + 1) :=
  ⟨hh, by rw [List.length_append, i.len]; rfl, szs_ok i.rng q1 q2, by have := prod_snoc z w (by omega); omega⟩
theorem p_sizes : ∀ ts R, S__law_sizes ts R → w__law_sizes (endsOf ts R) (startD 6 ts) := by
  rintro ts R ⟨h0, rfl, hh0, hR⟩
  have fin : ∀ (b : Bool) (h : List T) (z : List Int) (n : Nat) (x y : Sl T), SzI h z n → 1 ≤ n → n ≤ 8 → w__law_sizes_4 (endsOf [tH h0] R) (szE b h z x y) := by
    intro b h z n x y i n1 n8
    unfold w__law_sizes_4 szE
    trivial
    exact hR z h ⟨fun e => by have := i.len; rw [e] at this; simp at this; omega, by rw [i.len]; exact n8, i.rng, i.prod⟩ i.hh
  have put : ∀ (b : Bool) (h : List T) (z : List Int) (pre : List Int) (v w : Int) (x y : Sl T) (K : En → Prop), (∀ en, (∃ (h : List T) (z : List Int) (x y : Sl T), SzI h z (pre ++ [v]).length ∧ en = szE b h z x y) → K en) → SzI h z pre.length → 1 ≤ w → w ≤ 16 → ((z.map Int.toNat).prod : Nat) * w ≤ 1024 →
      K [.io (tH h), .own (tB b), .own (.nd .lst ((z.map PyData.int).map T.dat ++ [.dat (.int w)])), .own (tI (((z.map Int.toNat).prod : Nat) * w)), x, y] := by
    intro b h z pre v w x y K hK i q1 q2 q3
    have e := szE_snoc (b := b) (h := h) (z := z) (w := w) (x := x) (y := y) (by omega)
    rw [← e]
    exact hK _ ⟨h, z ++ [w], x, y, by rw [List.length_append]; exact szI_snoc i i.hh q1 q2 q3, rfl⟩
  trivial
  refine ⟨hh0, by decide, by decide, fun r h1 hh1 g1 g2 => ?_⟩
  trivial
  unfold w__law_sizes_1
  trivial
  unfold w__law_sizes_2
  trivial
  unfold w__law_sizes_3
  trivial
  generalize (PyData.int r).eqv (PyData.int 1) = b
  cases b
  · trivial
    refine ⟨hh1, by decide, by decide, fun r1 h2 hh2 g1 g2 => ?_⟩
    trivial
    refine ⟨by omega, by omega, ?_⟩
    trivial
    rw [rngD_eq]
    refine forGo_pre PyData.int (rngI (1 + r1)) (fun pre en => ∃ (h : List T) (z : List Int) (x y : Sl T), SzI h z pre.length ∧ en = szE false h z x y) ?_ ?_ ?_
    · exact ⟨h2, [], _, _, ⟨hh2, rfl, (fun _ h => nomatch h), by decide⟩, rfl⟩
    · rintro pre v post en K hx hK ⟨h3, z, x, y, i, rfl⟩
      have hlen := congrArg List.length hx
      rw [List.length_append, rngI_length, List.length_cons] at hlen
      have hp := i.prod
      have hz := i.len
      unfold szE
      trivial
      refine ⟨i.hh, by decide, by decide, fun r3 h4 hh4 g3 g4 => ?_⟩
      trivial
      refine ⟨hh4, by decide, by decide, fun r4 h5 hh5 g5 g6 => ?_⟩
      trivial
      have i5 : SzI h5 z pre.length := ⟨hh5, i.len, i.rng, i.prod⟩
      split
      · trivial
        unfold w__law_sizes_j1
        conv => whnf
        refine ⟨cmul_ok hp (by decide) (by decide), ?_⟩
        trivial
        refine ⟨lt_sz (by rw [List.length_map, List.length_map]; omega), ?_⟩
        exact put false h5 z pre v 1 _ _ K hK i5 (by decide) (by decide) (by omega)
      · trivial
        refine ⟨cmul_ok hp (by omega) (by omega), ?_⟩
        trivial
        split
        · trivial
          unfold w__law_sizes_j1
          conv => whnf
          refine ⟨cmul_ok hp (by decide) (by decide), ?_⟩
          trivial
          refine ⟨lt_sz (by rw [List.length_map, List.length_map]; omega), ?_⟩
          exact put false h5 z pre v 1 _ _ K hK i5 (by decide) (by decide) (by omega)
        · rename_i hcap
          rw [decide_eq_false_iff_not] at hcap
          trivial
          unfold w__law_sizes_j1
          conv => whnf
          refine ⟨cmul_ok hp (by omega) (by omega), ?_⟩
          trivial
          refine ⟨lt_sz (by rw [List.length_map, List.length_map]; omega), ?_⟩
          exact put false h5 z pre v (2 + r3) _ _ K hK i5 (by omega) (by omega) (by omega)
    · rintro en ⟨h3, z, x, y, i, rfl⟩
      exact fin false h3 z _ x y i (by rw [rngI_length]; omega) (by rw [rngI_length]; omega)
  · trivial
    refine ⟨hh1, by decide, by decide, fun r1 h2 hh2 g1 g2 => ?_⟩
    trivial
    refine ⟨by omega, by omega, ?_⟩
    trivial
    rw [rngD_eq]
    refine forGo_pre PyData.int (rngI (1 + r1)) (fun pre en => ∃ (h : List T) (z : List Int) (x y : Sl T), SzI h z pre.length ∧ en = szE true h z x y) ?_ ?_ ?_
    · exact ⟨h2, [], _, _, ⟨hh2, rfl, (fun _ h => nomatch h), by decide⟩, rfl⟩
    · rintro pre v post en K hx hK ⟨h3, z, x, y, i, rfl⟩
      have hlen := congrArg List.length hx
      rw [List.length_append, rngI_length, List.length_cons] at hlen
      have hp := i.prod
      have hz := i.len
      unfold szE
      trivial
      refine ⟨i.hh, by decide, by decide, fun r3 h4 hh4 g3 g4 => ?_⟩
      trivial
      refine ⟨hh4, by decide, by decide, fun r4 h5 hh5 g5 g6 => ?_⟩
      trivial
      have i5 : SzI h5 z pre.length := ⟨hh5, i.len, i.rng, i.prod⟩
      split
      · trivial
        unfold w__law_sizes_j1
        conv => whnf
        refine ⟨cmul_ok hp (by decide) (by decide), ?_⟩
        trivial
        refine ⟨lt_sz (by rw [List.length_map, List.length_map]; omega), ?_⟩
        exact put true h5 z pre v 1 _ _ K hK i5 (by decide) (by decide) (by omega)
      · trivial
        refine ⟨cmul_ok hp (by omega) (by omega), ?_⟩
        trivial
        split
        · trivial
          unfold w__law_sizes_j1
          conv => whnf
          refine ⟨cmul_ok hp (by decide) (by decide), ?_⟩
          trivial
          refine ⟨lt_sz (by rw [List.length_map, List.length_map]; omega), ?_⟩
          exact put true h5 z pre v 1 _ _ K hK i5 (by decide) (by decide) (by omega)
        · rename_i hcap
          rw [decide_eq_false_iff_not] at hcap
          trivial
          unfold w__law_sizes_j1
          conv => whnf
          refine ⟨cmul_ok hp (by omega) (by omega), ?_⟩
          trivial
          refine ⟨lt_sz (by rw [List.length_map, List.length_map]; omega), ?_⟩
          exact put true h5 z pre v (2 + r3) _ _ K hK i5 (by omega) (by omega) (by omega)
    · rintro en ⟨h3, z, x, y, i, rfl⟩
      exact fin true h3 z _ x y i (by rw [rngI_length]; omega) (by rw [rngI_length]; omega)
end R09

set_option maxRecDepth 100000
set_option maxHeartbeats 0
namespace R09
open PySem PySem.Spec PyProof.Rows L2 DL

local macro_rules | `(tactic| trivial) => `(tactic| ((conv => whnf); first | (refine ⟨_, _, rfl, rfl, ?_⟩; trivial) | (refine ⟨rfl, rfl, ?_⟩; trivial) | (refine ⟨_, rfl, ?_⟩; trivial) | (refine ⟨_, _, rfl, ?_⟩; trivial) | (refine ⟨Nat.zero_le _, ?_⟩; trivial) | (rw [lst_data]; trivial) | (rw [lst_sqK]; trivial) | (rw [lst_sqD]; trivial) | (rw [lst_lsD]; trivial) | (rw [lst_lsK]; trivial) | skip))
theorem every_len {z : List Int} (h : SzOk z) : 1 ≤ (every z).length ∧ (every z).length ≤ 1024 := by
  rw [every_length]
  refine ⟨prod_pos fun x hx => ?_, h.prod⟩
  obtain ⟨s, hs, rfl⟩ := List.mem_map.mp hx
  have := h.rng s hs
  omega
theorem tail_ok {z : List Int} (h : SzOk z) : (∀ s ∈ z.tail, 0 ≤ s ∧ s ≤ 16) ∧ z.tail.length ≤ 8 ∧ (z.tail.map Int.toNat).prod ≤ 1024 ∧ (∀ s ∈ z.tail, 1 ≤ s) := by
  have hm : ∀ s ∈ z.tail, 1 ≤ s ∧ s ≤ 16 := fun s hs => h.rng s (List.mem_of_mem_tail hs)
  refine ⟨fun s hs => ⟨by have := hm s hs; omega, (hm s hs).2⟩, by have := h.len; rw [List.length_tail]; omega, ?_, fun s hs => (hm s hs).1⟩
  have hp := h.prod
  cases z with
  | nil => simpa using hp
  | cons a z =>
    rw [List.map_cons, List.prod_cons] at hp
    have ha := (h.rng a (List.mem_cons_self ..)).1
    refine Nat.le_trans (Nat.le_mul_of_pos_left _ (by omega)) hp
theorem p_second : ∀ ts R, S__law_second ts R → w__law_second (endsOf ts R) (startD 12 ts) := by
  rintro ts R ⟨h, z, ss, rfl, hh, hz, hR⟩
  have hev := every_len hz
  trivial
  refine ⟨hh, by decide, by decide, fun r h1 hh1 g1 g2 => ?_⟩
  trivial
  unfold w__law_second_1
  trivial
  split
  · trivial
    rw [List.length_map, List.length_map]
    refine ⟨hh1, by omega, by omega, fun c h2 hh2 g3 g4 => ?_⟩
    trivial
    obtain ⟨x, hx, hx1, hx2, hx3⟩ := ix_at (xs := every z) (f := fun s => T.dat (encS s)) g3 (by rw [List.length_map]; exact g4)
    refine ⟨_, _, by rw [md_map]; exact hx2, by rw [md_map]; exact hx3, ?_⟩
    trivial
    refine lcGo_pre encS (every z) (fun pre acc en => (∃ ps : List St, ps.Sublist pre ∧ acc = (ps.map encS).map T.dat) ∧ ∃ u : Sl T, en = [.io (tH h2), .own (tS z), .own (tSs (every z)), .io (tK ss), .own (tI r), .own (tS x), .un, .un, .un, .un, .un, u]) ⟨⟨[], List.Sublist.refl _, rfl⟩, _, rfl⟩ ?_ ?_
    · rintro pre y post acc en K hx hK ⟨⟨ps, hps, rfl⟩, u, rfl⟩
      have hlen := congrArg List.length hx
      rw [List.length_append] at hlen
      have hle := hps.length_le
      trivial
      refine ⟨encS y, keyS y, rfl, keyS_ok y, ?_⟩
      trivial
      refine ⟨shaped_S y, shaped_S x, ?_⟩
      trivial
      split
      · trivial
        refine ⟨lt_sz (by rw [List.length_map, List.length_map]; omega), ?_⟩
        exact hK _ _ ⟨⟨ps ++ [y], List.Sublist.append hps (List.Sublist.refl _), by simp⟩, _, rfl⟩
      · exact hK _ _ ⟨⟨ps, hps.trans (List.sublist_append_left _ _), rfl⟩, _, rfl⟩
    · rintro acc en ⟨⟨ps, hps, rfl⟩, u, rfl⟩
      trivial
      exact hR ps h2 hh2 (SS_sub (every_SS z) hps) fun s hs => hps.subset hs
  · trivial
    unfold w__law_second_2
    trivial
    split
    · trivial
      refine ⟨hh1, by omega, fun ps h2 hh2 hps => ?_⟩
      trivial
      exact hR ps h2 hh2 (SS_sub (every_SS z) hps) fun s hs => hps.subset hs
    · trivial
      unfold w__law_second_3
      trivial
      obtain ⟨t1, t2, t3, t4⟩ := tail_ok hz
      have et : PyData.tuple (cut (z.map PyData.int) (some 1) none) = encS z.tail := by
        have := cut_from (z.map PyData.int) 1
        unfold encS
        rw [show ((1 : Nat) : Int) = 1 from rfl] at this
        rw [this, ← List.map_drop, List.drop_one]
      refine ⟨z.tail, by rw [et], t1, t2, t3, t4, ?_⟩
      trivial
      unfold w__law_second_4
      trivial
      refine ⟨hh1, by have := every_length z.tail; omega, fun pa h2 hh2 hpa => ?_⟩
      trivial
      refine ⟨hh2, by have := every_length z.tail; omega, fun pb h3 hh3 hpb => ?_⟩
      trivial
      refine ⟨le_sz (n := 3) (by decide), ?_⟩
      trivial
      unfold w__law_second_5
      trivial
      unfold w__law_second_6
      trivial
      have hsets : (T.nd .lst [nSs pa, nSs pb, T.nd .lst []]).data? = some (.list [.list (pa.map encS), .list (pb.map encS), .list []]) := nd_data (datas_c (lst_data (pa.map encS)) (datas_c (lst_data (pb.map encS)) (datas_c (lst_data []) datas_n)))
      rw [hsets]
      trivial
      have hz0 : 0 < z.length := Nat.pos_of_ne_zero fun e => hz.ne (List.eq_nil_of_length_eq_zero e)
      have hs0 : 1 ≤ z.getD 0 0 ∧ z.getD 0 0 ≤ 16 := hz.rng _ (by rw [List.getD_eq_getElem?_getD, List.getElem?_eq_getElem hz0]; exact List.getElem_mem hz0)
      refine ⟨0, _, by rw [List.length_map, List.length_map]; exact ixN_nat (i := 0) hz0, by rw [md_map]; exact getD_at z _ 0 hz0, ?_⟩
      trivial
      refine ⟨by omega, by omega, ?_⟩
      trivial
      rw [rngD_eq]
      have hez : every z = (rngI (z.getD 0 0)).flatMap fun v => (every z.tail).map (v :: ·) := by
        cases z with
        | nil => simp at hz0
        | cons a z => rfl
      have het := every_length z.tail
      refine forGo_pre PyData.int (rngI (z.getD 0 0)) (fun pre en => (∃ (h : List T) (near : List St), HandOk h ∧ SS near ∧ (∀ s ∈ near, ∃ v ∈ pre, ∃ t ∈ every z.tail, s = v :: t) ∧ near.length ≤ pre.length * 1024 ∧ ∃ x9 x10 x11 : Sl T, en = [.io (tH h), .own (tS z), .own (tSs (every z)), .io (tK ss), .own (tI r), .un, .own (tSs (every z.tail)), .own (.dat (.list [.list (pa.map encS), .list (pb.map encS), .list []])), .own (nSs near), x9, x10, x11])) ?_ ?_ ?_
      · exact ⟨h3, [], hh3, List.Pairwise.nil, (fun _ h => nomatch h), Nat.zero_le _, _, _, _, rfl⟩
      · rintro pre v post en K hx hK ⟨h4, near, hh4, hSS, hin, hlen, x9, x10, x11, rfl⟩
        have hplen := congrArg List.length hx
        rw [List.length_append, rngI_length, List.length_cons] at hplen
        have hpv : ∀ u ∈ pre, u < v := fun u hu => by
          have := rngI_SI (z.getD 0 0)
          rw [hx] at this
          exact (List.pairwise_append.mp this).2.2 u hu v (List.mem_cons_self ..)
        -- one of the three sets
        have each : ∀ (R' : EndsD) (sub : List St) (h5 : List T) (x10 x11 : Sl T), (∀ en, K en → R'.nx en) → HandOk h5 → sub.Sublist (every z.tail) → forGo (wSet 10) (wSeq (wAppN 8 (eN (n2 fAdd (uN (nTup (auCons (uVar 9) auNil))) (uVar 10)))) wNil) (sub.map encS) R'
            [.io (tH h5), .own (tS z), .own (tSs (every z)), .io (tK ss), .own (tI r), .un, .own (tSs (every z.tail)), .own (.dat (.list [.list (pa.map encS), .list (pb.map encS), .list []])), .own (nSs near), .own (tI v), x10, x11] := by
          intro R' sub h5 x10 x11 hRK hh5 hsub
          have hsl := hsub.length_le
          refine forGo_pre encS sub (fun pre2 en => ∃ x10 x11 : Sl T, en = [.io (tH h5), .own (tS z), .own (tSs (every z)), .io (tK ss), .own (tI r), .un, .own (tSs (every z.tail)), .own (.dat (.list [.list (pa.map encS), .list (pb.map encS), .list []])), .own (nSs (near ++ pre2.map (v :: ·))), .own (tI v), x10, x11]) ?_ ?_ ?_
          · exact ⟨_, _, by rw [List.map_nil, List.append_nil]⟩
          · rintro pre2 t post2 en K2 hx2 hK2 ⟨x10, x11, rfl⟩
            have hlen2 := congrArg List.length hx2
            rw [List.length_append, List.length_cons] at hlen2
            have htl : t.length = z.tail.length := (mem_every (hsub.subset (by rw [hx2]; simp))).1
            trivial
            refine ⟨le_sz (n := 1) (by decide), ?_⟩
            trivial
            refine ⟨le_sz (by rw [List.length_map]; show 1 + t.length ≤ _; omega), ?_⟩
            trivial
            refine ⟨lt_sz (by rw [List.length_map, List.length_map, List.length_append, List.length_map]; omega), ?_⟩
            have e : nSs (near ++ (pre2 ++ [t]).map (v :: ·)) = .nd .lst (((near ++ pre2.map (v :: ·)).map encS).map T.dat ++ [.dat (encS (v :: t))]) := by
              rw [List.map_append (l₁ := pre2), ← List.append_assoc]
              exact snoc_lst encS (near ++ pre2.map (v :: ·)) (v :: t)
            exact hK2 _ ⟨_, _, by rw [e]; rfl⟩
          · rintro en ⟨x10, x11, rfl⟩
            refine hRK _ (hK _ ⟨h5, near ++ sub.map (v :: ·), hh5, ?_, ?_, ?_, _, _, _, rfl⟩)
            · refine List.pairwise_append.mpr ⟨hSS, List.Pairwise.map _ (fun a b hab => cons_lt.mpr (.inr ⟨rfl, hab⟩)) (SS_sub (every_SS z.tail) hsub), fun a ha b hb => ?_⟩
              obtain ⟨u, hu, t, ht, rfl⟩ := hin a ha
              obtain ⟨q, hq, rfl⟩ := List.mem_map.mp hb
              exact cons_lt.mpr (.inl (hpv u hu))
            · intro s hs
              rcases List.mem_append.mp hs with hs | hs
              · obtain ⟨u, hu, t, ht, rfl⟩ := hin s hs
                exact ⟨u, List.mem_append_left _ hu, t, ht, rfl⟩
              · obtain ⟨q, hq, rfl⟩ := List.mem_map.mp hs
                exact ⟨v, List.mem_append_right _ (List.mem_singleton.mpr rfl), q, hsub.subset hq, rfl⟩
            · rw [List.length_append, List.length_map, List.length_append]
              show _ ≤ (pre.length + 1) * 1024
              omega
        trivial
        refine ⟨hh4, by decide, by decide, fun q h5 hh5 g5 g6 => ?_⟩
        trivial
        have hq : q = 0 ∨ q = 1 ∨ q = 2 := by omega
        rcases hq with rfl | rfl | rfl
        · refine ⟨0, _, rfl, rfl, ?_⟩
          trivial
          exact each _ pa h5 _ _ (fun _ h => by simp only [frc_eq]; exact h) hh5 hpa
        · refine ⟨1, _, rfl, rfl, ?_⟩
          trivial
          exact each _ pb h5 _ _ (fun _ h => by simp only [frc_eq]; exact h) hh5 hpb
        · refine ⟨2, _, rfl, rfl, ?_⟩
          trivial
          exact hK _ ⟨h5, near, hh5, hSS, fun s hs => by
            obtain ⟨u, hu, t, ht, e⟩ := hin s hs
            exact ⟨u, List.mem_append_left _ hu, t, ht, e⟩, by rw [List.length_append]; show _ ≤ (pre.length + 1) * 1024; omega, _, _, _, rfl⟩
      · rintro en ⟨h4, near, hh4, hSS, hin, hlen, x9, x10, x11, rfl⟩
        trivial
        unfold w__law_second_7
        trivial
        exact hR near h4 hh4 hSS fun s hs => by
          obtain ⟨v, hv, t, ht, rfl⟩ := hin s hs
          rw [hez]
          exact List.mem_flatMap.mpr ⟨v, hv, List.mem_map.mpr ⟨t, ht, rfl⟩⟩
end R09

set_option maxRecDepth 100000
set_option maxHeartbeats 0
namespace R09
open PySem PySem.Spec PyProof.Rows L2 DL

local macro_rules | `(tactic| trivial) => `(tactic| ((conv => whnf); first | (refine ⟨_, _, rfl, rfl, ?_⟩; trivial) | (refine ⟨rfl, rfl, ?_⟩; trivial) | (refine ⟨_, rfl, ?_⟩; trivial) | (refine ⟨_, _, rfl, ?_⟩; trivial) | (refine ⟨Nat.zero_le _, ?_⟩; trivial) | (rw [lst_data]; trivial) | (rw [lst_sqK]; trivial) | (rw [lst_sqD]; trivial) | (rw [lst_lsD]; trivial) | (rw [lst_lsK]; trivial) | skip))
theorem BoxIn_snoc : ∀ {z : List Int} {b : Bx} {s : Int} {e : List Int}, BoxIn z b → (e ≠ [] ∧ e.Nodup ∧ ∀ v ∈ e, 0 ≤ v ∧ v < s) → BoxIn (z ++ [s]) (b ++ [e])
  | [], [], _, _, _, h => ⟨h, True.intro⟩
  | [], _ :: _, _, _, h, _ => h.elim
  | _ :: _, [], _, _, h, _ => h.elim
  | s :: z, e :: b, _, _, h, h' => ⟨h.1, BoxIn_snoc h.2 h'⟩
theorem full_in {z : List Int} (h : ∀ s ∈ z, 1 ≤ s ∧ s ≤ 16) : BoxIn z (z.map rngI) := by
  induction z with
  | nil => exact True.intro
  | cons s z ih =>
    refine ⟨⟨fun e => ?_, rngI_nodup s, fun v hv => mem_rngI.mp hv⟩, ih fun x hx => h x (List.mem_cons_of_mem _ hx)⟩
    have := rngI_length s
    rw [e] at this
    have := h s (List.mem_cons_self ..)
    simp at *
    omega
theorem p_region : ∀ ts R, S__law_region ts R → w__law_region (endsOf ts R) (startD 5 ts) := by
  rintro ts R ⟨h0, z, rfl, hh0, hz, hR⟩
  have last : ∀ (h : List T) (bs : List Bx) (x y : Sl T), HandOk h → RegOk z bs → w__law_region_3 (endsOf [tH h0, tS z] R) [.io (tH h), .own (tS z), .own (nBs bs), x, y] := by
    intro h bs x y hh hb
    unfold w__law_region_3
    trivial
    exact hR bs h hh hb
  have mid : ∀ (h : List T) (bs : List Bx) (x y : Sl T), HandOk h → (∀ b ∈ bs, BoxIn z b) → bs.length ≤ 1000 → w__law_region_2 (endsOf [tH h0, tS z] R) [.io (tH h), .own (tS z), .own (nBs bs), x, y] := by
    intro h bs x y hh hb hl
    unfold w__law_region_2
    trivial
    refine ⟨hh, by decide, by decide, fun r h1 hh1 g1 g2 => ?_⟩
    trivial
    split
    · trivial
      refine lcGo_pre PyData.int z (fun pre acc en => acc = ((pre.map rngI).map encS).map T.dat ∧ ∃ x y : Sl T, en = [.io (tH h1), .own (tS z), .own (nBs bs), x, y]) ⟨rfl, _, _, rfl⟩ ?_ ?_
      · rintro pre s post acc en K hx hK ⟨rfl, x, y, rfl⟩
        have hlen := congrArg List.length hx
        rw [List.length_append] at hlen
        have hs := hz.rng s (by rw [hx]; simp)
        have hz8 := hz.len
        trivial
        refine ⟨⟨by decide, by decide, by omega, by omega, by omega⟩, ?_⟩
        trivial
        refine ⟨lt_sz (by rw [List.length_map, List.length_map, List.length_map]; omega), ?_⟩
        exact hK _ _ ⟨by rw [rngD_eq]; simp [encS], _, _, rfl⟩
      · rintro acc en ⟨rfl, x, y, rfl⟩
        trivial
        refine ⟨lt_sz (by rw [List.length_map, List.length_map]; omega), ?_⟩
        have e : nBs (bs ++ [z.map rngI]) = .nd .lst ((bs.map encB).map T.dat ++ [.dat (encB (z.map rngI))]) := snoc_lst encB bs _
        have L := fun x y => e ▸ last h1 (bs ++ [z.map rngI]) x y hh1 ⟨fun b hb' => by
          rcases List.mem_append.mp hb' with q | q
          · exact hb b q
          · rw [List.mem_singleton.mp q]; exact full_in hz.rng, by rw [List.length_append, List.length_singleton]; omega⟩
        trivial
        exact L _ _
    · trivial
      exact last h1 bs _ _ hh1 ⟨hb, by omega⟩
  trivial
  unfold w__law_region_1
  trivial
  refine ⟨hh0, by decide, by decide, fun r h1 hh1 g1 g2 => ?_⟩
  have loop : ∀ (n : Int) (h2 : List T) (R' : EndsD) (x y : Sl T), HandOk h2 → 0 ≤ n → n ≤ 6 → (∀ en, w__law_region_2 (endsOf [tH h0, tS z] R) en → R'.nx en) → forGo (wSet 3) (wSeq (wIf (tAndD (tV (ue2 fNe (uVar 2) (uN (nLst (auNil))))) (tV (eu2 fEq (eCall S__law_draw [some 0, none] (cName 0 (cCons (eF (eU (uC (.int 6)))) (cNil)))) (uC (.int 1))))) (wSeq (wAppN 2 (eU (uIx (uVar 2) (uC (.int 0)))))
    (wNil)) (wSeq (wAppN 2 (e1 fTup (eLc [4] (iFz 1) (wSet 4) (fun en Q => Q true en) (eCall S__law_entry [some 0, none] (cName 0 (cNameF 4 (cNil)))))))
    (wNil)))
    (wNil)) ((rngI n).map PyData.int) R' [.io (tH h2), .own (tS z), .own (nBs []), x, y] := by
    intro n h2 R' x y hh2 n0 n6 hR'
    refine forGo_pre PyData.int (rngI n) (fun pre en => ∃ (h : List T) (bs : List Bx) (x y : Sl T), HandOk h ∧ (∀ b ∈ bs, BoxIn z b) ∧ bs.length ≤ pre.length ∧ en = [.io (tH h), .own (tS z), .own (nBs bs), x, y]) ?_ ?_ ?_
    · exact ⟨h2, [], _, _, hh2, (fun _ h => nomatch h), Nat.le_refl _, rfl⟩
    · rintro pre v post en K hx hK ⟨h3, bs, x, y, hh3, hb, hbl, rfl⟩
      have hlen := congrArg List.length hx
      rw [List.length_append, rngI_length, List.length_cons] at hlen
      have add : ∀ (h : List T) (b : Bx) (x y : Sl T), HandOk h → BoxIn z b → K [.io (tH h), .own (tS z), .own (.nd .lst ((bs.map encB).map T.dat ++ [.dat (encB b)])), x, y] := by
        intro h b x y hh hbi
        have e : nBs (bs ++ [b]) = .nd .lst ((bs.map encB).map T.dat ++ [.dat (encB b)]) := snoc_lst encB bs b
        rw [← e]
        exact hK _ ⟨h, bs ++ [b], _, _, hh, fun q hq => by
          rcases List.mem_append.mp hq with g | g
          · exact hb q g
          · rw [List.mem_singleton.mp g]; exact hbi, by rw [List.length_append, List.length_append]; exact Nat.add_le_add_right hbl _, rfl⟩
      -- the other way: a box of its own
      have own : ∀ (h : List T) (R' : EndsD) (x y : Sl T), HandOk h → (∀ en, K en → R'.nx en) → (wSeq (wAppN 2 (e1 fTup (eLc [4] (iFz 1) (wSet 4) (fun en Q => Q true en) (eCall S__law_entry [some 0, none] (cName 0 (cNameF 4 (cNil))))))) (wNil)) R' [.io (tH h), .own (tS z), .own (nBs bs), x, y] := by
        intro h R' x y hh hK'
        trivial
        refine lcGo_pre PyData.int z (fun pre2 acc en => ∃ (h : List T) (b : Bx) (x y : Sl T), HandOk h ∧ BoxIn pre2 b ∧ acc = (b.map encS).map T.dat ∧ en = [.io (tH h), .own (tS z), .own (nBs bs), x, y]) ⟨h, [], _, _, hh, True.intro, rfl, rfl⟩ ?_ ?_
        · rintro pre2 s post2 acc en K2 hx2 hK2 ⟨h5, b, x, y, hh5, hbi, rfl, rfl⟩
          have hlen2 := congrArg List.length hx2
          rw [List.length_append] at hlen2
          have hs := hz.rng s (by rw [hx2]; simp)
          have hz8 := hz.len
          have hbl := hbi.len
          trivial
          refine ⟨hh5, hs.1, hs.2, fun e h6 hh6 he1 he2 he3 => ?_⟩
          trivial
          refine ⟨lt_sz (by rw [List.length_map, List.length_map]; omega), ?_⟩
          exact hK2 _ _ ⟨h6, b ++ [e], _, _, hh6, BoxIn_snoc hbi ⟨he1, he2, he3⟩, by simp, rfl⟩
        · rintro acc en ⟨h5, b, x, y, hh5, hbi, rfl, rfl⟩
          trivial
          refine ⟨lt_sz (by rw [List.length_map, List.length_map]; omega), ?_⟩
          trivial
          exact hK' _ (add h5 b _ _ hh5 hbi)
      trivial
      refine ⟨shaped_Bs bs, shaped_nil, ?_⟩
      trivial
      split
      · rename_i hne
        trivial
        refine ⟨hh3, by decide, by decide, fun q h4 hh4 g3 g4 => ?_⟩
        trivial
        split
        · trivial
          obtain ⟨b0, bs', rfl⟩ : ∃ b0 bs', bs = b0 :: bs' := by
            cases bs with
            | nil => cases hne
            | cons b0 bs' => exact ⟨b0, bs', rfl⟩
          refine ⟨0, _, ixN_nat (by simp), rfl, ?_⟩
          trivial
          refine ⟨lt_sz (by rw [List.length_map, List.length_map]; omega), ?_⟩
          trivial
          exact add h4 b0 _ _ hh4 (hb b0 (List.mem_cons_self ..))
        · exact own h4 _ _ _ hh4 fun en h => by simp only [frc_eq]; exact h
      · exact own h3 _ _ _ hh3 fun en h => by simp only [frc_eq]; exact h
    · rintro en ⟨h, bs, x, y, hh, hb, hbl, rfl⟩
      rw [rngI_length] at hbl
      exact hR' _ (mid h bs x y hh hb (by omega))
  trivial
  split
  · trivial
    refine ⟨hh1, by decide, by decide, fun q h2 hh2 g3 g4 => ?_⟩
    trivial
    refine ⟨by omega, by omega, ?_⟩
    trivial
    rw [rngD_eq]
    exact loop q h2 _ _ _ hh2 g3 (by omega) fun en h => by simp only [frc_eq]; exact h
  · trivial
    refine ⟨hh1, by decide, by decide, fun q h2 hh2 g3 g4 => ?_⟩
    trivial
    refine ⟨by omega, by omega, ?_⟩
    trivial
    rw [rngD_eq]
    exact loop q h2 _ _ _ hh2 g3 (by omega) fun en h => by simp only [frc_eq]; exact h
end R09

set_option maxRecDepth 100000
set_option maxHeartbeats 0
namespace R09
open PySem PySem.Spec PyProof.Rows L2 DL

local macro_rules | `(tactic| trivial) => `(tactic| ((conv => whnf); first | (refine ⟨_, _, rfl, rfl, ?_⟩; trivial) | (refine ⟨rfl, rfl, ?_⟩; trivial) | (refine ⟨_, rfl, ?_⟩; trivial) | (refine ⟨_, _, rfl, ?_⟩; trivial) | (refine ⟨Nat.zero_le _, ?_⟩; trivial) | (rw [lst_data]; trivial) | (rw [lst_sqK]; trivial) | (rw [lst_sqD]; trivial) | (rw [lst_lsD]; trivial) | (rw [lst_lsK]; trivial) | skip))
/-! the law's own boxes -/
theorem tls_snoc (u v : Int) (r : St) (pre : List St) : tls u (pre ++ [v :: r]) = tls u pre ++ (if v = u then [r] else []) := by
  unfold tls
  rw [List.filterMap_append]
  congr 1
  by_cases h : v = u <;> simp [h]
theorem hds_snoc (v : Int) (r : St) (pre : List St) : hds (pre ++ [v :: r]) = if v ∈ hds pre then hds pre else hds pre ++ [v] := by
  unfold hds
  rw [List.filterMap_append]
  exact dd_snoc _ _
theorem hds_nodup (ss : List St) : (hds ss).Nodup := nodup_dd _
theorem hds_le (ss : List St) : (hds ss).length ≤ ss.length := Nat.le_trans (dd_length_le _) (List.length_filterMap_le _ _)
theorem tls_le (v : Int) (ss : List St) : (tls v ss).length ≤ ss.length := List.length_filterMap_le _ _
theorem tls_nil {v : Int} {pre : List St} (h : v ∉ hds pre) : tls v pre = [] := by
  refine List.eq_nil_iff_forall_not_mem.mpr fun r hr => h ?_
  exact mem_hds.mpr ⟨r, mem_tls.mp hr⟩
/-- the last head of sorted states -/
theorem hds_last {pre : List St} {v : Int} {r : St} (hs : SS (pre ++ [v :: r])) (hl : ∀ s ∈ pre, s ≠ []) : (v ∈ hds pre → ∃ L, hds pre = L ++ [v] ∧ v ∉ L) ∧ (v ∉ hds pre → pre ≠ [] → ∃ L u, hds pre = L ++ [u] ∧ u ≠ v) := by
  have hp := List.pairwise_append.mp hs
  have hS : SI (hds pre) := hds_sorted hp.1
  have le : ∀ u ∈ hds pre, u ≤ v := fun u hu => by
    obtain ⟨q, hq⟩ := mem_hds.mp hu
    rcases cons_lt.mp (hp.2.2 _ hq _ (List.mem_singleton.mpr rfl)) with h | ⟨h, _⟩ <;> omega
  constructor
  · intro hv
    have hne : hds pre ≠ [] := fun e => by rw [e] at hv; cases hv
    have e := List.dropLast_concat_getLast hne
    have : (hds pre).getLast hne = v := by
      have h1 := le _ (List.getLast_mem hne)
      rw [← e] at hv hS
      rcases List.mem_append.mp hv with h | h
      · have := (List.pairwise_append.mp hS).2.2 v h _ (List.mem_singleton.mpr rfl)
        omega
      · exact (List.mem_singleton.mp h).symm
    rw [this] at e
    refine ⟨_, e.symm, fun h => ?_⟩
    have hn := hds_nodup pre
    rw [← e] at hn
    exact (List.nodup_append.mp hn).2.2 v h v (List.mem_singleton.mpr rfl) rfl
  · intro hv hne'
    have hne : hds pre ≠ [] := fun e => by
      obtain ⟨s, q, rfl⟩ := List.exists_cons_of_ne_nil hne'
      have := hl s (List.mem_cons_self ..)
      cases s with
      | nil => exact this rfl
      | cons a b =>
        have : a ∈ hds ((a :: b) :: q) := mem_hds.mpr ⟨b, List.mem_cons_self ..⟩
        rw [e] at this; cases this
    refine ⟨_, _, (List.dropLast_concat_getLast hne).symm, fun h => hv ?_⟩
    rw [← h]; exact List.getLast_mem hne
/-- the rests by their heads -/
abbrev rsT (pre : List St) (v : Int) : T := .nd .lst [tI v, nSs (tls v pre)]
abbrev rsD (pre : List St) (v : Int) : PyData := .list [.int v, .list ((tls v pre).map encS)]
theorem rsT_data (pre : List St) (v : Int) : (rsT pre v).data? = some (rsD pre v) := nd_data (datas_c rfl (datas_c (lst_data _) datas_n))
theorem rs_data (pre : List St) (l : List Int) : (T.nd .lst (l.map (rsT pre))).data? = some (.list (l.map (rsD pre))) := nd_data (datas_mapF (rsT_data pre) l)
theorem can_ls {α : Type} {f : α → PyData} (h : ∀ a, (f a).canLay0 = true) (l : List α) : (PyData.list (l.map f)).canLay0 = true := by simp only [PyData.canLay0]; exact canAll h l
theorem dep_ls {α : Type} {f : α → PyData} {n : Nat} (h : ∀ a, (f a).depth ≤ n) (l : List α) : (PyData.list (l.map f)).depth ≤ n + 1 := by
  simp only [PyData.depth]
  have := depthAllD h l
  omega
theorem can_rsD (pre : List St) (v : Int) : (rsD pre v).canLay0 = true := by
  have := can_ls can_S (tls v pre)
  simp only [PyData.canLay0] at this
  simp [PyData.canLay0, PyData.canLayAll0, this]
theorem dep_rsD (pre : List St) (v : Int) : (rsD pre v).depth ≤ 3 := by
  have := dep_ls dep_S (tls v pre)
  simp only [PyData.depth] at this
  simp [PyData.depth, PyData.depthAll]
  omega
theorem shaped_rs (pre : List St) (l : List Int) : SeqAt.shaped (.list (l.map (rsD pre))) = true := shaped_list (can_rsD pre) (dep_rsD pre) (by decide) l
end R09

set_option maxRecDepth 100000
set_option maxHeartbeats 0
namespace R09
open PySem PySem.Spec PyProof.Rows L2 DL

local macro_rules | `(tactic| trivial) => `(tactic| ((conv => whnf); first | (refine ⟨_, _, rfl, rfl, ?_⟩; trivial) | (refine ⟨rfl, rfl, ?_⟩; trivial) | (refine ⟨_, rfl, ?_⟩; trivial) | (refine ⟨_, _, rfl, ?_⟩; trivial) | (refine ⟨Nat.zero_le _, ?_⟩; trivial) | (rw [lst_data]; trivial) | (rw [lst_sqK]; trivial) | (rw [lst_sqD]; trivial) | (rw [lst_lsD]; trivial) | (rw [lst_lsK]; trivial) | skip))
theorem ixN_last (n : Nat) : L2.ixN (n + 1) (-1) = some n := by
  unfold L2.ixN
  rw [if_neg (by decide)]
  rw [if_pos (by omega)]
  congr 1
  omega
/-- the groups by their rests -/
abbrev grT (ss : List St) (pre : List Int) (key : List St) : T := .nd .lst [nIs (pre.filter fun v => decide (tls v ss = key)), tSs key]
abbrev grD (ss : List St) (pre : List Int) (key : List St) : PyData := .list [.list ((pre.filter fun v => decide (tls v ss = key)).map PyData.int), .list (key.map encS)]
theorem grT_data (ss : List St) (pre : List Int) (key : List St) : (grT ss pre key).data? = some (grD ss pre key) := nd_data (datas_c (lst_data _) (datas_c rfl datas_n))
theorem gr_data (ss : List St) (pre : List Int) (l : List (List St)) : (T.nd .lst (l.map (grT ss pre))).data? = some (.list (l.map (grD ss pre))) := nd_data (datas_mapF (grT_data ss pre) l)
theorem gr_new {ss : List St} {pre : List Int} {v : Int} (h : tls v ss ∉ pre.map fun v => tls v ss) : (dd ((pre ++ [v]).map fun v => tls v ss)).map (grT ss (pre ++ [v])) = (dd (pre.map fun v => tls v ss)).map (grT ss pre) ++ [T.nd .lst [T.nd .lst [T.dat (.int v)], tSs (tls v ss)]] := by
  rw [List.map_append (l₁ := pre), List.map_singleton, dd_snoc', if_neg h, List.map_append]
  congr 1
  · refine List.map_congr_left fun key hk => ?_
    have : key ≠ tls v ss := fun e => h (mem_dd.mp (e ▸ hk))
    show T.nd .lst [_, _] = T.nd .lst [_, _]
    rw [List.filter_append, List.filter_cons, if_neg (by simpa using Ne.symm this), List.filter_nil, List.append_nil]
  · have : (pre.filter fun u => decide (tls u ss = tls v ss)) = [] := List.filter_eq_nil_iff.mpr fun u hu e => h (List.mem_map.mpr ⟨u, hu, of_decide_eq_true e⟩)
    show [T.nd .lst [_, _]] = _
    rw [List.filter_append, this, List.filter_cons, if_pos (by simp)]
    rfl
theorem gr_old {ss : List St} {pre : List Int} {v : Int} {j : Nat} (h : (dd (pre.map fun v => tls v ss))[j]? = some (tls v ss)) : (dd ((pre ++ [v]).map fun v => tls v ss)).map (grT ss (pre ++ [v])) =
    ((dd (pre.map fun v => tls v ss)).map (grT ss pre)).set j (T.nd .lst [T.nd .lst ((((pre.filter fun u => decide (tls u ss = tls v ss))).map PyData.int).map T.dat ++ [T.dat (.int v)]), tSs (tls v ss)]) := by
  have hm := mem_dd.mp (List.mem_of_getElem? h)
  rw [List.map_append (l₁ := pre), List.map_singleton, dd_snoc', if_pos hm, set_upd (nodup_dd _) h]
  refine List.map_congr_left fun key hk => ?_
  by_cases e : key = tls v ss
  · subst e
    rw [if_pos rfl]
    show T.nd .lst [nIs _, _] = _
    rw [List.filter_append, List.filter_cons, if_pos (by simp), List.filter_nil, show nIs (_ ++ [v]) = _ from snoc_lst PyData.int _ v]
  · rw [if_neg e]
    show T.nd .lst [_, _] = T.nd .lst [_, _]
    rw [List.filter_append, List.filter_cons, if_neg (by simpa using Ne.symm e), List.filter_nil, List.append_nil]
abbrev lbP (n : Nat) (ss : List St) (r : List St) : List Bx := (lb n r).map fun b => ((hds ss).filter fun v => decide (tls v ss = r)) :: b
theorem p_lboxes (m : Nat) (hm8 : m ≤ 8) : ∀ ts R, S__law_boxes (m + 1) ts R → w__law_boxes m (endsOf ts R) (startD 11 ts) := by
  rintro ts R ⟨n, ss, hm, rfl, hs, hl, hlen, hR⟩
  have e0 : PyData.eqv (.int (n : Int)) (.int 0) = decide (n = 0) := by rw [eqv_int]; exact decide_eq_decide.mpr (by omega)
  trivial
  rw [e0]
  split
  · rename_i h
    have h := of_decide_eq_true h
    subst h
    trivial
    refine ⟨shaped_Ss ss, shaped_nil, ?_⟩
    trivial
    split
    · rename_i h
      have hne : ss ≠ [] := fun e => by subst e; cases h
      trivial
      refine ⟨le_sz (n := 1) (by decide), ?_⟩
      trivial
      have : lb 0 ss = [[]] := by unfold lb; rw [if_neg hne]
      rw [this] at hR
      exact hR
    · rename_i h
      have hne : ss = [] := by cases ss with
        | nil => rfl
        | cons a b => cases h
      trivial
      have : lb 0 ss = [] := by unfold lb; rw [if_pos hne]
      rw [this] at hR
      exact hR
  · rename_i h
    have h := of_decide_eq_false h
    obtain ⟨n, rfl⟩ : ∃ k, n = k + 1 := ⟨n - 1, by omega⟩
    clear e0 h
    have hne : ∀ s ∈ ss, s ≠ [] := fun s hs' e => by have := hl s hs'; rw [e] at this; cases this
    trivial
    unfold w__law_boxes_1
    trivial
    unfold w__law_boxes_2
    trivial
    refine forGo_pre encS ss (fun pre en => ∃ x3 x4 x5 x6 x7 x8 x9 x10 : Sl T, en = [.own (tSs ss), .own (tI ((n + 1 : Nat) : Int)), .own (.nd .lst ((hds pre).map (rsT pre))), x3, x4, x5, x6, x7, x8, x9, x10]) ?_ ?_ ?_
    · exact ⟨_, _, _, _, _, _, _, _, rfl⟩
    · rintro pre s post en K hx hK ⟨x3, x4, x5, x6, x7, x8, x9, x10, rfl⟩
      obtain ⟨v, r, rfl⟩ := List.exists_cons_of_ne_nil (hne s (by rw [hx]; simp))
      have hss : SS (pre ++ [v :: r]) := SS_sub hs (by rw [hx]; exact List.Sublist.append (List.Sublist.refl _) (List.cons_sublist_cons.mpr (List.nil_sublist _)))
      have hrl : r.length = n := by have := hl (v :: r) (by rw [hx]; simp); simpa using this
      have hplen := congrArg List.length hx
      rw [List.length_append, List.length_cons] at hplen
      obtain ⟨l1, l2⟩ := hds_last hss fun s hs' => hne s (by rw [hx]; exact List.mem_append_left _ hs')
      -- behind the test
      have step : ∀ (L : List Int) (R' : EndsD) (x4 x5 x6 x7 x8 x9 x10 : Sl T), v ∉ L → hds (pre ++ [v :: r]) = L ++ [v] → (∀ en, K en → R'.nx en) → w__law_boxes_j1 m R'
          [.own (tSs ss), .own (tI ((n + 1 : Nat) : Int)), .own (.nd .lst (L.map (rsT pre) ++ [.nd .lst [tI v, nSs (tls v pre)]])), .own (tS (v :: r)), x4, x5, x6, x7, x8, x9, x10] := by
        intro L R' x4 x5 x6 x7 x8 x9 x10 hv he hR'
        unfold w__law_boxes_j1
        have hg : (L.map (rsT pre) ++ [.nd .lst [tI v, nSs (tls v pre)]])[L.length]? = some (.nd .lst [tI v, nSs (tls v pre)]) := by
          rw [List.getElem?_append_right (by simp)]; simp
        trivial
        refine ⟨L.length, _, by rw [List.length_append, List.length_map]; exact ixN_last L.length, hg, ?_⟩
        trivial
        simp only [isLst, mutApp, mutSet, mutN, placeT, List.getElem?_cons_zero, List.getElem?_cons_succ, List.set_cons_zero, List.set_cons_succ, Sl.tr, Sl.with, T.get?, T.put, List.nil_append, List.cons_append, Int.toNat_one, Int.toNat_zero, hg]
        trivial
        simp only [isLst, mutApp, mutSet, mutN, placeT, List.getElem?_cons_zero, List.getElem?_cons_succ, List.set_cons_zero, List.set_cons_succ, Sl.tr, Sl.with, T.get?, T.put, List.nil_append, List.cons_append, Int.toNat_one, Int.toNat_zero, hg]
        trivial
        have htl := tls_le v pre
        refine ⟨lt_sz (by rw [List.length_map, List.length_map]; omega), ?_⟩
        have ecut : PyData.tuple (cut (List.map PyData.int (v :: r)) (some 1) none) = encS r := by
          have := cut_from (List.map PyData.int (v :: r)) 1
          rw [show ((1 : Nat) : Int) = 1 from rfl] at this
          rw [this]; rfl
        have e1 : (L.map (rsT pre) ++ [T.nd .lst [tI v, nSs (tls v pre)]]).set L.length (T.nd .lst [tI v, T.nd .lst (((tls v pre).map encS).map T.dat ++ [T.dat (.tuple (cut (List.map PyData.int (v :: r)) (some 1) none))])]) = (hds (pre ++ [v :: r])).map (rsT (pre ++ [v :: r])) := by
          rw [he, ecut, List.map_append, List.set_append_right _ _ (by simp)]
          congr 1
          · refine List.map_congr_left fun u hu => ?_
            show T.nd .lst [tI u, nSs (tls u pre)] = T.nd .lst [tI u, nSs (tls u (pre ++ [v :: r]))]
            rw [tls_snoc, if_neg (fun e : v = u => hv (by rw [e]; exact hu)), List.append_nil]
          · show _ = [T.nd .lst [tI v, nSs (tls v (pre ++ [v :: r]))]]
            rw [tls_snoc, if_pos rfl, show nSs (tls v pre ++ [r]) = _ from snoc_lst encS (tls v pre) r]
            simp
        rw [e1]
        trivial
        exact hR' _ (hK _ ⟨_, _, _, _, _, _, _, _, rfl⟩)
      by_cases hv : v ∈ hds pre
      · obtain ⟨L, hL, hvL⟩ := l1 hv
        have hhd : hds (pre ++ [v :: r]) = L ++ [v] := by rw [hds_snoc, if_pos hv, hL]
        have hg : ((L ++ [v]).map (rsT pre))[L.length]? = some (rsT pre v) := by
          rw [List.map_append, List.getElem?_append_right (by simp)]; simp
        rw [hL]
        trivial
        rw [rs_data]
        trivial
        refine ⟨shaped_rs pre _, shaped_nil, ?_⟩
        trivial
        rw [eqv_nil]
        split
        · rename_i h; simp at h
        · trivial
          refine ⟨L.length, _, by rw [List.length_map, List.length_append]; exact ixN_last L.length, hg, ?_⟩
          trivial
          refine ⟨0, _, ixN_nat (by simp), rfl, ?_⟩
          trivial
          rw [eqv_int]
          split
          · rename_i h; simp at h
          · rw [show (L ++ [v]).map (rsT pre) = L.map (rsT pre) ++ [T.nd .lst [tI v, nSs (tls v pre)]] from by rw [List.map_append]; rfl]
            trivial
            exact step L _ _ _ _ _ _ _ _ hvL hhd fun en h => h
      · have hhd : hds (pre ++ [v :: r]) = hds pre ++ [v] := by rw [hds_snoc, if_neg hv]
        have hnil := tls_nil hv
        have step := step (hds pre)
        rw [hnil] at step
        trivial
        rw [rs_data]
        trivial
        refine ⟨shaped_rs pre _, shaped_nil, ?_⟩
        trivial
        rw [eqv_nil]
        split
        · rename_i h
          trivial
          refine ⟨0, _, ixN_nat (by simp), rfl, ?_⟩
          trivial
          refine ⟨le_sz (n := 2) (by decide), ?_⟩
          trivial
          refine ⟨lt_sz (by have := hds_le pre; rw [List.length_map]; omega), ?_⟩
          trivial
          exact step _ _ _ _ _ _ _ _ hv hhd fun en h => h
        · rename_i h
          have h := of_decide_eq_false h
          obtain ⟨L, u, hL, huv⟩ := l2 hv fun e => h (by rw [e]; rfl)
          have hg : ((hds pre).map (rsT pre))[L.length]? = some (rsT pre u) := by
            rw [hL, List.map_append, List.getElem?_append_right (by simp)]; simp
          trivial
          refine ⟨L.length, _, by rw [List.length_map, hL, List.length_append]; exact ixN_last L.length, hg, ?_⟩
          trivial
          refine ⟨0, _, ixN_nat (by simp), rfl, ?_⟩
          trivial
          rw [eqv_int]
          split
          · trivial
            refine ⟨0, _, ixN_nat (by simp), rfl, ?_⟩
            trivial
            refine ⟨le_sz (n := 2) (by decide), ?_⟩
            trivial
            refine ⟨lt_sz (by have := hds_le pre; rw [List.length_map]; omega), ?_⟩
            trivial
            exact step _ _ _ _ _ _ _ _ hv hhd fun en h => h
          · rename_i h; simp [huv] at h
    · rintro en ⟨x3, x4, x5, x6, x7, x8, x9, x10, rfl⟩
      trivial
      unfold w__law_boxes_3
      trivial
      unfold w__law_boxes_4
      trivial
      rw [rs_data]
      trivial
      refine forGo_pre (rsD ss) (hds ss) (fun pre en => ∃ x3 x5 x6 x7 x8 x9 x10 : Sl T, en = [.own (tSs ss), .own (tI ((n + 1 : Nat) : Int)), .own (.dat (.list ((hds ss).map (rsD ss)))), x3, .own (.nd .lst ((dd (pre.map fun v => tls v ss)).map (grT ss pre))), x5, x6, x7, x8, x9, x10]) ?_ ?_ ?_
      · exact ⟨_, _, _, _, _, _, _, rfl⟩
      · rintro pre v post en K hx hK ⟨x3, x5, x6, x7, x8, x9, x10, rfl⟩
        have hplen := congrArg List.length hx
        rw [List.length_append, List.length_cons] at hplen
        have hhl := hds_le ss
        have hkl := dd_length_le (pre.map fun v => tls v ss)
        rw [List.length_map] at hkl
        have hvp : v ∉ pre := fun h => by
          have := hds_nodup ss
          rw [hx] at this
          exact (List.nodup_append.mp this).2.2 v h v (List.mem_cons_self ..) rfl
        trivial
        rw [List.length_map]
        refine ⟨by omega, by omega, ?_⟩
        trivial
        rw [rngD_nat]
        refine forGo_pre (fun i : Nat => PyData.int ((i : Nat) : Int)) (List.range (dd (pre.map fun v => tls v ss)).length) (fun pre2 en => ∃ (pl : Int) (x3 x7 x8 x9 x10 : Sl T), ((pl = -1 ∧ ∀ j ∈ pre2, (dd (pre.map fun v => tls v ss))[j]? ≠ some (tls v ss)) ∨ ∃ j : Nat, pl = j ∧ (dd (pre.map fun v => tls v ss))[j]? = some (tls v ss)) ∧
          en = [.own (tSs ss), .own (tI ((n + 1 : Nat) : Int)), .own (.dat (.list ((hds ss).map (rsD ss)))), x3, .own (.nd .lst ((dd (pre.map fun v => tls v ss)).map (grT ss pre))), .own (.dat (rsD ss v)), .own (tI pl), x7, x8, x9, x10]) ?_ ?_ ?_
        · exact ⟨-1, _, _, _, _, _, .inl ⟨rfl, fun _ h => nomatch h⟩, rfl⟩
        · rintro pre2 i post2 en K2 hx2 hK2 ⟨pl, x3, x7, x8, x9, x10, hpl, rfl⟩
          have hi : i < (dd (pre.map fun v => tls v ss)).length := List.mem_range.mp (by rw [hx2]; simp)
          obtain ⟨key, hkey⟩ : ∃ key, (dd (pre.map fun v => tls v ss))[i]? = some key := ⟨_, List.getElem?_eq_getElem hi⟩
          trivial
          refine ⟨i, _, by rw [List.length_map]; exact ixN_nat hi, getm hkey, ?_⟩
          trivial
          refine ⟨shaped_Ss key, shaped_Ss (tls v ss), ?_⟩
          trivial
          rw [eqv_lst, eqvAll_map eqv_S]
          split
          · rename_i h
            have h := of_decide_eq_true h
            trivial
            exact hK2 _ ⟨(i : Int), _, _, _, _, _, .inr ⟨i, rfl, by rw [hkey, h]⟩, rfl⟩
          · rename_i h
            have h := of_decide_eq_false h
            refine hK2 _ ⟨pl, _, _, _, _, _, ?_, rfl⟩
            rcases hpl with ⟨e, hno⟩ | hyes
            · refine .inl ⟨e, fun j hj => ?_⟩
              rcases List.mem_append.mp hj with q | q
              · exact hno j q
              · rw [List.mem_singleton.mp q, hkey]
                exact fun e => h (Option.some.inj e)
            · exact .inr hyes
        · rintro en ⟨pl, x3, x7, x8, x9, x10, hpl, rfl⟩
          trivial
          unfold w__law_boxes_j2
          trivial
          rcases hpl with ⟨rfl, hno⟩ | ⟨j, rfl, hj⟩
          · have hnew : tls v ss ∉ dd (pre.map fun v => tls v ss) := fun hm' => by
              obtain ⟨j, e, hl'⟩ := get_of_mem hm'
              exact hno j (List.mem_range.mpr hl') e
            have hnew' : tls v ss ∉ pre.map fun v => tls v ss := fun q => hnew (mem_dd.mpr q)
            trivial
            refine ⟨le_sz (n := 1) (by decide), ?_⟩
            trivial
            refine ⟨le_sz (n := 2) (by decide), ?_⟩
            trivial
            refine ⟨lt_sz (by rw [List.length_map]; omega), ?_⟩
            trivial
            exact hK _ ⟨_, _, _, _, _, _, _, by rw [gr_new hnew']; rfl⟩
          · have hmem := mem_dd.mp (List.mem_of_getElem? hj)
            have hjl : j < (dd (pre.map fun v => tls v ss)).length := (List.getElem?_eq_some_iff.mp hj).1
            have hg : ((dd (pre.map fun v => tls v ss)).map (grT ss pre))[j]? = some (T.nd .lst [nIs (pre.filter fun u => decide (tls u ss = tls v ss)), tSs (tls v ss)]) := getm hj
            have hfl := List.length_filter_le (fun u => decide (tls u ss = tls v ss)) pre
            trivial
            refine ⟨j, _, by rw [List.length_map]; exact ixN_nat hjl, hg, ?_⟩
            trivial
            simp only [isLst, mutApp, mutSet, mutN, placeT, List.getElem?_cons_zero, List.getElem?_cons_succ, List.set_cons_zero, List.set_cons_succ, Sl.tr, Sl.with, T.get?, T.put, List.nil_append, List.cons_append, Int.toNat_one, Int.toNat_zero, hg]
            trivial
            simp only [isLst, mutApp, mutSet, mutN, placeT, List.getElem?_cons_zero, List.getElem?_cons_succ, List.set_cons_zero, List.set_cons_succ, Sl.tr, Sl.with, T.get?, T.put, List.nil_append, List.cons_append, Int.toNat_one, Int.toNat_zero, hg]
            trivial
            refine ⟨lt_sz (by rw [List.length_map, List.length_map]; omega), ?_⟩
            exact hK _ ⟨_, _, _, _, _, _, _, by rw [gr_old hj]; rfl⟩
      · rintro en ⟨x3, x5, x6, x7, x8, x9, x10, rfl⟩
        trivial
        unfold w__law_boxes_5
        trivial
        unfold w__law_boxes_6
        trivial
        rw [gr_data]
        trivial
        have hkn := dd_length_le ((hds ss).map fun v => tls v ss)
        rw [List.length_map] at hkn
        have hhl := hds_le ss
        have hll := lb_length (n + 1) ss
        refine forGo_pre (grD ss (hds ss)) (dd ((hds ss).map fun v => tls v ss)) (fun pre en => ∃ x3 x5 x6 x7 x9 x10 : Sl T, en = [.own (tSs ss), .own (tI ((n + 1 : Nat) : Int)), .own (.dat (.list ((hds ss).map (rsD ss)))), x3, .own (.dat (.list ((dd ((hds ss).map fun v => tls v ss)).map (grD ss (hds ss))))), x5, x6, x7, .own (nBs (pre.flatMap (lbP n ss))), x9, x10]) ?_ ?_ ?_
        · exact ⟨_, _, _, _, _, _, rfl⟩
        · rintro pre key post en K hx hK ⟨x3, x5, x6, x7, x9, x10, rfl⟩
          have hkey : key ∈ dd ((hds ss).map fun v => tls v ss) := by rw [hx]; simp
          obtain ⟨u, hu, rfl⟩ := List.mem_map.mp (mem_dd.mp hkey)
          have htl := tls_le u ss
          trivial
          have en1 : ((n + 1 : Nat) : Int) - 1 = (n : Int) := by omega
          refine ⟨n, tls u ss, by omega, by show [tSs (tls u ss), T.dat (.int (((n + 1 : Nat) : Int) - 1))] = _; rw [en1], hs.tls u, hl.tls u, by omega, ?_⟩
          trivial
          refine forGo_pre encB (lb n (tls u ss)) (fun pre2 en => ∃ x3 x5 x6 x7 x10 : Sl T, en = [.own (tSs ss), .own (tI ((n + 1 : Nat) : Int)), .own (.dat (.list ((hds ss).map (rsD ss)))), x3, .own (.dat (.list ((dd ((hds ss).map fun v => tls v ss)).map (grD ss (hds ss))))), x5, x6, x7, .own (nBs (pre.flatMap (lbP n ss) ++ pre2.map fun b => ((hds ss).filter fun v => decide (tls v ss = tls u ss)) :: b)), .own (.dat (grD ss (hds ss) (tls u ss))), x10]) ?_ ?_ ?_
          · exact ⟨_, _, _, _, _, by rw [List.map_nil, List.append_nil]; rfl⟩
          · rintro pre2 b post2 en K2 hx2 hK2 ⟨x3, x5, x6, x7, x10, rfl⟩
            have hbl := (lb_ok n (tls u ss) b (by rw [hx2]; simp)).1
            have htot : (pre.flatMap (lbP n ss)).length + (lb n (tls u ss)).length ≤ (lb (n + 1) ss).length := by
              have e : lb (n + 1) ss = (dd ((hds ss).map fun v => tls v ss)).flatMap (lbP n ss) := rfl
              rw [e, hx, List.flatMap_append, List.flatMap_cons, List.length_append, List.length_append, List.length_map]
              omega
            have hlen2 := congrArg List.length hx2
            rw [List.length_append, List.length_cons] at hlen2
            have e2 : nBs (pre.flatMap (lbP n ss) ++ (pre2 ++ [b]).map fun b => ((hds ss).filter fun v => decide (tls v ss = tls u ss)) :: b) = .nd .lst (((pre.flatMap (lbP n ss) ++ pre2.map fun b => ((hds ss).filter fun v => decide (tls v ss = tls u ss)) :: b).map encB).map T.dat ++ [.dat (encB (((hds ss).filter fun v => decide (tls v ss = tls u ss)) :: b))]) := by
              rw [List.map_append (l₁ := pre2), ← List.append_assoc]
              exact snoc_lst encB _ _
            trivial
            refine ⟨le_sz (n := 1) (by decide), ?_⟩
            trivial
            refine ⟨le_sz (by rw [List.length_map]; show 1 + b.length ≤ _; omega), ?_⟩
            trivial
            refine ⟨lt_sz (by rw [List.length_map, List.length_map, List.length_append, List.length_map]; omega), ?_⟩
            exact hK2 _ ⟨_, _, _, _, _, by rw [e2]; rfl⟩
          · rintro en ⟨x3, x5, x6, x7, x10, rfl⟩
            trivial
            exact hK _ ⟨_, _, _, _, _, _, by rw [List.flatMap_append, List.flatMap_singleton]⟩
        · rintro en ⟨x3, x5, x6, x7, x9, x10, rfl⟩
          trivial
          unfold w__law_boxes_7
          trivial
          have : lb (n + 1) ss = (dd ((hds ss).map fun v => tls v ss)).flatMap (lbP n ss) := rfl
          rw [this] at hR
          exact hR
end R09

set_option maxRecDepth 100000
set_option maxHeartbeats 0
namespace R09
open PySem PySem.Spec PyProof.Rows L2 DL

local macro_rules | `(tactic| trivial) => `(tactic| ((conv => whnf); first | (refine ⟨_, _, rfl, rfl, ?_⟩; trivial) | (refine ⟨rfl, rfl, ?_⟩; trivial) | (refine ⟨_, rfl, ?_⟩; trivial) | (refine ⟨_, _, rfl, ?_⟩; trivial) | (refine ⟨Nat.zero_le _, ?_⟩; trivial) | (rw [lst_data]; trivial) | (rw [lst_sqK]; trivial) | (rw [lst_sqD]; trivial) | (rw [lst_lsD]; trivial) | (rw [lst_lsK]; trivial) | skip))
/-! joined -/
def kI (v : Int) : NestedKey := .num v
theorem kI_inj (a b : Int) (h : kI a = kI b) : a = b := by unfold kI at h; cases h; rfl
def addk {α : Type} [DecidableEq α] (l : List α) (x : α) : List α := if x ∈ l then l else l ++ [x]
theorem dd_addk {α : Type} [DecidableEq α] (l : List α) (x : α) : dd (l ++ [x]) = addk (dd l) x := dd_snoc l x
theorem addk_mem {α : Type} [DecidableEq α] {l : List α} {x : α} (h : x ∈ l) : addk l x = l := if_pos h
/-- a dict of Trues gets a key -/
theorem put_true {α : Type} [DecidableEq α] {kf : α → NestedKey} (inj : ∀ a b, kf a = kf b → a = b) {l : List α} (hn : l.Nodup) (a : α) :
    putKs (l.map kf) (kf a) = (addk l a).map kf ∧ putVs (l.map kf) (l.map fun _ => tB true) (kf a) (tB true) = (addk l a).map fun _ => tB true := by
  unfold addk
  by_cases h : a ∈ l
  · rw [if_pos h]
    have := put_old inj (f := fun _ : α => tB true) (x := tB true) hn h
    refine ⟨this.1, this.2.trans (List.map_congr_left fun b _ => ?_)⟩
    by_cases e : b = a <;> simp [e]
  · rw [if_neg h]
    have := put_new inj (f := fun _ : α => tB true) (x := tB true) h
    exact ⟨this.1, this.2.trans (by rw [List.map_append]; rfl)⟩
/-- the rests so far: what each value's boxes leave -/
abbrev dT (bs : List Bx) : T := .nd (.dic true (bs.map keyB)) (bs.map fun _ => tB true)
abbrev jnT (vs : List Int) (f : Int → List Bx) : T := .nd (.dic false (vs.map kI)) (vs.map fun v => dT (f v))
def heads (b : Bx) : List Int := match b with
  | e :: _ => e
  | [] => []
def jk (pre : List Bx) (es : List Int) : List Int := dd (pre.flatMap heads ++ es)
def jf (pre : List Bx) (t : Bx) (es : List Int) (v : Int) : List Bx := dd ((pre.filter (hasV v)).map List.tail ++ (if v ∈ es then [t] else []))
theorem jk_snoc (pre : List Bx) (es : List Int) (v : Int) : jk pre (es ++ [v]) = addk (jk pre es) v := by
  unfold jk
  rw [← List.append_assoc, dd_addk]
theorem jk_done (pre : List Bx) (e : List Int) (t : Bx) : jk (pre ++ [e :: t]) [] = jk pre e := by
  unfold jk
  rw [List.flatMap_append, List.flatMap_singleton, List.append_nil]
  rfl
theorem jf_snoc (pre : List Bx) (t : Bx) (es : List Int) (v : Int) : jf pre t (es ++ [v]) v = addk (jf pre t es v) t := by
  unfold jf
  rw [if_pos (List.mem_append_right _ (List.mem_singleton.mpr rfl))]
  by_cases h : v ∈ es
  · rw [if_pos h, addk_mem (mem_dd.mpr (List.mem_append_right _ (List.mem_singleton.mpr rfl)))]
  · rw [if_neg h, List.append_nil, dd_addk]
theorem jf_other {pre : List Bx} {t : Bx} {es : List Int} {u v : Int} (h : u ≠ v) : jf pre t (es ++ [v]) u = jf pre t es u := by
  unfold jf
  have : u ∈ es ++ [v] ↔ u ∈ es := by simp [h]
  simp only [this]
theorem jf_done (pre : List Bx) (e : List Int) (t : Bx) (v : Int) : jrest v (pre ++ [e :: t]) = jf pre t e v := by
  unfold jrest jf
  rw [List.filter_append, List.map_append]
  congr 2
  by_cases h : v ∈ e <;> simp [hasV, h]
theorem jf_none {pre : List Bx} {t : Bx} {v : Int} : jf pre t [] v = jrest v pre := by
  unfold jrest jf
  simp
theorem jk_mem {pre : List Bx} {es : List Int} {v : Int} : v ∈ jk pre es ↔ (∃ b ∈ pre, hasV v b = true) ∨ v ∈ es := by
  unfold jk
  rw [mem_dd, List.mem_append, List.mem_flatMap]
  refine or_congr ⟨?_, ?_⟩ Iff.rfl
  · rintro ⟨b, hb, h⟩
    refine ⟨b, hb, ?_⟩
    cases b with
    | nil => cases h
    | cons e b => exact decide_eq_true h
  · rintro ⟨b, hb, h⟩
    refine ⟨b, hb, ?_⟩
    cases b with
    | nil => cases h
    | cons e b => exact of_decide_eq_true h
theorem jf_nil {pre : List Bx} {t : Bx} {es : List Int} {v : Int} (h : v ∉ jk pre es) : jf pre t es v = [] := by
  unfold jf
  have h1 : pre.filter (hasV v) = [] := List.filter_eq_nil_iff.mpr fun b hb e => h (jk_mem.mpr (.inl ⟨b, hb, e⟩))
  have h2 : v ∉ es := fun e => h (jk_mem.mpr (.inr e))
  rw [h1, if_neg h2]
  rfl
theorem jf_nodup (pre : List Bx) (t : Bx) (es : List Int) (v : Int) : (jf pre t es v).Nodup := nodup_dd _
theorem jk_nodup (pre : List Bx) (es : List Int) : (jk pre es).Nodup := nodup_dd _
theorem jf_le (pre : List Bx) (t : Bx) (es : List Int) (v : Int) : (jf pre t es v).length ≤ pre.length + 1 := by
  refine Nat.le_trans (dd_length_le _) ?_
  rw [List.length_append, List.length_map]
  have := List.length_filter_le (hasV v) pre
  split <;> simp <;> omega
/-- behind `if value not in rests` -/
theorem jn_new {pre : List Bx} {t : Bx} {es : List Int} {v : Int} (h : v ∉ jk pre es) :
    T.nd (.dic false (putKs ((jk pre es).map kI) (kI v))) (putVs ((jk pre es).map kI) ((jk pre es).map fun v => dT (jf pre t es v)) (kI v) (.nd (.dic true []) [])) = jnT (jk pre (es ++ [v])) (jf pre t es) := by
  obtain ⟨h1, h2⟩ := put_new kI_inj (f := fun v => dT (jf pre t es v)) (x := T.nd (.dic true []) []) h
  rw [h1, h2, jk_snoc]
  unfold addk
  rw [if_neg h]
  show T.nd _ _ = T.nd _ ((jk pre es ++ [v]).map fun u => dT (jf pre t es u))
  rw [List.map_append (f := fun u => dT (jf pre t es u))]
  congr 2
  show _ = [dT (jf pre t es v)]
  rw [jf_nil h]
  rfl
theorem jn_set {pre : List Bx} {t : Bx} {es : List Int} {v : Int} {i : Nat} (hi : (jk pre (es ++ [v]))[i]? = some v) :
    ((jk pre (es ++ [v])).map fun u => dT (jf pre t es u)).set i (T.nd (.dic true (putKs ((jf pre t es v).map keyB) (keyB t))) (putVs ((jf pre t es v).map keyB) ((jf pre t es v).map fun _ => tB true) (keyB t) (tB true))) = (jk pre (es ++ [v])).map fun u => dT (jf pre t (es ++ [v]) u) := by
  obtain ⟨h1, h2⟩ := put_true (kf := keyB) (fun _ _ => keyB_inj) (jf_nodup pre t es v) t
  rw [h1, h2, set_upd (jk_nodup _ _) hi]
  refine List.map_congr_left fun u hu => ?_
  by_cases e : u = v
  · subst e
    rw [if_pos rfl, ← jf_snoc]
  · rw [if_neg e, jf_other e]
end R09

set_option maxRecDepth 100000
set_option maxHeartbeats 0
namespace R09
open PySem PySem.Spec PyProof.Rows L2 DL

local macro_rules | `(tactic| trivial) => `(tactic| ((conv => whnf); first | (refine ⟨_, _, rfl, rfl, ?_⟩; trivial) | (refine ⟨rfl, rfl, ?_⟩; trivial) | (refine ⟨_, rfl, ?_⟩; trivial) | (refine ⟨_, _, rfl, ?_⟩; trivial) | (refine ⟨Nat.zero_le _, ?_⟩; trivial) | (rw [lst_data]; trivial) | (rw [lst_sqK]; trivial) | (rw [lst_sqD]; trivial) | (rw [lst_lsD]; trivial) | (rw [lst_lsK]; trivial) | skip))
theorem kI_ok (v : Int) : KeyOk false (.int v) (kI v) := ⟨rfl, True.intro⟩
theorem hasV_hds {n : Nat} {bs : List Bx} {ss : List St} (hn : ∀ b ∈ bs, BoxNe (n + 1) b) (h : SameSet bs ss) {v : Int} {b : Bx} (hb : b ∈ bs) (e : hasV v b = true) : v ∈ hds ss := by
  cases b with
  | nil => cases e
  | cons e' b =>
    obtain ⟨t, ht⟩ := rowsB_ne (b := b) fun x hx => (hn _ hb).2 x (List.mem_cons_of_mem _ hx)
    refine mem_hds.mpr ⟨t, (h _).mp (inAny_iff.mpr ⟨_, hb, ?_⟩)⟩
    simp only [hasV] at e
    simp only [inB, Bool.and_eq_true]
    exact ⟨e, ht⟩
theorem jn_rest {n : Nat} {bs : List Bx} {ss : List St} (hb : ∀ b ∈ bs, BoxNe (n + 1) b) (hs : SS ss) (h : SameSet bs ss) (v : Int) : jn n (jrest v bs) = lb n (tls v ss) := by
  unfold jn
  rw [sd_eq (hs.tls v) (jrest_same hb h v)]
theorem kI_datas (l : List Int) : (l.map kI).map NestedKey.data = l.map PyData.int := by rw [List.map_map]; rfl
theorem kB_datas (l : List Bx) : (l.map keyB).map NestedKey.data = l.map encB := by rw [List.map_map]; exact List.map_congr_left fun b _ => keyB_data b
theorem kBs_datas (l : List (List Bx)) : (l.map keyBs).map NestedKey.data = l.map encBs := by rw [List.map_map]; exact List.map_congr_left fun b _ => keyBs_data b
/-- what is known, the groups -/
abbrev kk (bs : List Bx) (pre : List Int) : List (List Bx) := dd (pre.map fun v => jrest v bs)
abbrev gk (n : Nat) (ss : List St) (pre : List Int) : List (List Bx) := dd (pre.map fun v => lb n (tls v ss))
abbrev kT (n : Nat) (ks : List (List Bx)) : T := .nd (.dic true (ks.map keyBs)) (ks.map fun key => T.dat (encBs (jn n key)))
abbrev gV (n : Nat) (ss : List St) (pre : List Int) (key : List Bx) : T := nIs (pre.filter fun v => decide (lb n (tls v ss) = key))
abbrev gT (n : Nat) (ss : List St) (ks : List (List Bx)) (pre : List Int) : T := .nd (.dic true (ks.map keyBs)) (ks.map (gV n ss pre))
theorem k_new {n : Nat} {bs : List Bx} {pre : List Int} {v : Int} (h : jrest v bs ∉ kk bs pre) : T.nd (.dic true (putKs ((kk bs pre).map keyBs) (keyBs (jrest v bs)))) (putVs ((kk bs pre).map keyBs) ((kk bs pre).map fun key => T.dat (encBs (jn n key))) (keyBs (jrest v bs)) (.dat (encBs (jn n (jrest v bs))))) = kT n (kk bs (pre ++ [v])) := by
  obtain ⟨h1, h2⟩ := put_new (kf := keyBs) (fun _ _ => keyBs_inj) (f := fun key => T.dat (encBs (jn n key))) (x := T.dat (encBs (jn n (jrest v bs)))) h
  have e : kk bs (pre ++ [v]) = kk bs pre ++ [jrest v bs] := by
    show dd ((pre ++ [v]).map fun v => jrest v bs) = _
    rw [List.map_append, List.map_singleton, dd_snoc, if_neg h]
  rw [h1, h2, e]
  show T.nd _ _ = T.nd _ ((kk bs pre ++ [jrest v bs]).map fun key => T.dat (encBs (jn n key)))
  rw [List.map_append (f := fun key => T.dat (encBs (jn n key)))]
  rfl
theorem k_old {bs : List Bx} {pre : List Int} {v : Int} (h : jrest v bs ∈ kk bs pre) : kk bs (pre ++ [v]) = kk bs pre := by
  show dd ((pre ++ [v]).map fun v => jrest v bs) = _
  rw [List.map_append, List.map_singleton, dd_snoc, if_pos h]
theorem k_in {bs : List Bx} {pre : List Int} {v : Int} : jrest v bs ∈ kk bs (pre ++ [v]) := mem_dd.mpr (List.mem_map.mpr ⟨v, List.mem_append_right _ (List.mem_singleton.mpr rfl), rfl⟩)
theorem g_new {n : Nat} {ss : List St} {pre : List Int} {v : Int} (h : lb n (tls v ss) ∉ gk n ss pre) : T.nd (.dic true (putKs ((gk n ss pre).map keyBs) (keyBs (lb n (tls v ss))))) (putVs ((gk n ss pre).map keyBs) ((gk n ss pre).map (gV n ss pre)) (keyBs (lb n (tls v ss))) (.nd .lst [])) = gT n ss (gk n ss (pre ++ [v])) pre := by
  obtain ⟨h1, h2⟩ := put_new (kf := keyBs) (fun _ _ => keyBs_inj) (f := gV n ss pre) (x := T.nd .lst []) h
  have e : gk n ss (pre ++ [v]) = gk n ss pre ++ [lb n (tls v ss)] := by
    show dd ((pre ++ [v]).map fun v => lb n (tls v ss)) = _
    rw [List.map_append, List.map_singleton, dd_snoc, if_neg h]
  have e2 : (pre.filter fun u => decide (lb n (tls u ss) = lb n (tls v ss))) = [] := List.filter_eq_nil_iff.mpr fun u hu e => h (mem_dd.mpr (List.mem_map.mpr ⟨u, hu, of_decide_eq_true e⟩))
  rw [h1, h2, e]
  show T.nd _ _ = T.nd _ ((gk n ss pre ++ [lb n (tls v ss)]).map (gV n ss pre))
  rw [List.map_append (f := gV n ss pre)]
  congr 2
  show _ = [nIs _]
  rw [e2]
  rfl
theorem g_old {n : Nat} {ss : List St} {pre : List Int} {v : Int} (h : lb n (tls v ss) ∈ gk n ss pre) : gk n ss (pre ++ [v]) = gk n ss pre := by
  show dd ((pre ++ [v]).map fun v => lb n (tls v ss)) = _
  rw [List.map_append, List.map_singleton, dd_snoc, if_pos h]
theorem g_in {n : Nat} {ss : List St} {pre : List Int} {v : Int} : lb n (tls v ss) ∈ gk n ss (pre ++ [v]) := mem_dd.mpr (List.mem_map.mpr ⟨v, List.mem_append_right _ (List.mem_singleton.mpr rfl), rfl⟩)
theorem g_set {n : Nat} {ss : List St} {pre : List Int} {v : Int} {i : Nat} {l : List (List Bx)} (hn : l.Nodup) (hi : l[i]? = some (lb n (tls v ss))) :
    (l.map (gV n ss pre)).set i (T.nd .lst (((pre.filter fun u => decide (lb n (tls u ss) = lb n (tls v ss))).map PyData.int).map T.dat ++ [T.dat (.int v)])) = l.map (gV n ss (pre ++ [v])) := by
  rw [set_upd hn hi]
  refine List.map_congr_left fun key hk => ?_
  by_cases e : key = lb n (tls v ss)
  · subst e
    rw [if_pos rfl]
    show _ = nIs _
    rw [List.filter_append, List.filter_cons, if_pos (by simp), List.filter_nil, show nIs (_ ++ [v]) = _ from snoc_lst PyData.int _ v]
  · rw [if_neg e]
    show nIs _ = nIs _
    rw [List.filter_append, List.filter_cons, if_neg (by simpa using Ne.symm e), List.filter_nil, List.append_nil]
theorem p_joined (m : Nat) (hm8 : m ≤ 9) : ∀ ts R, S__joined (m + 1) ts R → w__joined m (endsOf ts R) (startD 8 ts) := by
  rintro ts R ⟨n, bs, ss, hm, rfl, hb, hbl, hs, hsame, hsl, hR⟩
  trivial
  rw [List.length_map, List.length_map]
  rw [eqv_int]
  split
  · rename_i h
    have h := of_decide_eq_true h
    have : bs = [] := List.eq_nil_of_length_eq_zero (by omega)
    subst this
    have : ss = [] := List.eq_nil_iff_forall_not_mem.mpr fun s hs' => by
      have := (hsame s).mpr hs'
      simp [inAny] at this
    subst this
    trivial
    have : lb n [] = [] := List.eq_nil_of_length_eq_zero (Nat.le_zero.mp (lb_length n []))
    rw [this] at hR
    exact hR
  · rename_i h
    have h := of_decide_eq_false h
    obtain ⟨b0, bs', hbs⟩ : ∃ b0 bs', bs = b0 :: bs' := List.exists_cons_of_ne_nil fun e => h (by rw [e]; rfl)
    have hb0 := hb b0 (by rw [hbs]; exact List.mem_cons_self ..)
    have hi0 : (bs.map fun b => T.dat (encB b))[0]? = some (.dat (encB b0)) := by rw [hbs]; rfl
    have hl0 : 0 < bs.length := by rw [hbs]; simp
    trivial
    unfold w__joined_1
    trivial
    refine ⟨0, _, by rw [List.length_map, List.length_map]; exact ixN_nat (i := 0) hl0, by rw [md_map]; exact hi0, ?_⟩
    trivial
    rw [List.length_map, List.length_map, eqv_int, hb0.1]
    split
    · rename_i h
      have h := of_decide_eq_true h
      have : n = 0 := by omega
      subst this
      trivial
      refine ⟨le_sz (n := 1) (by decide), ?_⟩
      trivial
      have : lb 0 ss = [[]] := by
        unfold lb
        rw [if_neg]
        intro e
        have := (hsame []).mp (inAny_iff.mpr ⟨b0, by rw [hbs]; exact List.mem_cons_self .., by rw [List.eq_nil_of_length_eq_zero hb0.1]; rfl⟩)
        rw [e] at this
        cases this
      rw [this] at hR
      exact hR
    · rename_i h
      have h := of_decide_eq_false h
      obtain ⟨n, rfl⟩ : ∃ k, n = k + 1 := ⟨n - 1, by omega⟩
      trivial
      unfold w__joined_2
      trivial
      unfold w__joined_3
      trivial
      refine forGo_pre encB bs (fun pre en => ∃ x2 x3 : Sl T, en = [.own (tBs bs), .own (jnT (jk pre []) fun v => jrest v pre), x2, x3, .un, .un, .un, .un]) ⟨_, _, rfl⟩ ?_ ?_
      · rintro pre b post en K hx hK ⟨x2, x3, rfl⟩
        have hbm : b ∈ bs := by rw [hx]; simp
        have hbn := hb b hbm
        obtain ⟨e, t, rfl⟩ := List.exists_cons_of_ne_nil (l := b) fun e => by have := hbn.1; rw [e] at this; simp at this
        have hplen := congrArg List.length hx
        rw [List.length_append, List.length_cons] at hplen
        have htl : t.length = n := by have := hbn.1; simpa using this
        have ej0 : (fun v => jrest v pre) = jf pre t [] := funext fun v => jf_none.symm
        rw [ej0]
        have ecut : PyData.tuple (cut ((e :: t).map encS) (some 1) none) = encB t := by
          have := cut_from ((e :: t).map encS) 1
          rw [show ((1 : Nat) : Int) = 1 from rfl] at this
          rw [this]; rfl
        trivial
        refine ⟨0, _, ixN_nat (i := 0) (by simp), rfl, ?_⟩
        trivial
        refine forGo_pre PyData.int e (fun es en => ∃ x3 : Sl T, en = [.own (tBs bs), .own (jnT (jk pre es) (jf pre t es)), .own (.dat (encB (e :: t))), x3, .un, .un, .un, .un]) ⟨_, rfl⟩ ?_ ?_
        · rintro es v post2 en K2 hx2 hK2 ⟨x3, rfl⟩
          have hkl : ∀ es', (∀ u ∈ es', u ∈ e) → (jk pre es').length ≤ ss.length := fun es' he' => by
            refine Nat.le_trans (nodup_sub_len (m := hds ss) (jk_nodup _ _) fun u hu => ?_) (hds_le ss)
            rcases jk_mem.mp hu with ⟨b, hb1, hb2⟩ | hu
            · exact hasV_hds hb hsame (by rw [hx]; exact List.mem_append_left _ hb1) hb2
            · exact hasV_hds hb hsame hbm (decide_eq_true (he' u hu))
          have hk1 := hkl es fun u hu => by rw [hx2]; exact List.mem_append_left _ hu
          -- behind the test
          have step : ∀ (R' : EndsD), (∀ en, K2 en → R'.nx en) → w__joined_j1 m R' [.own (tBs bs), .own (jnT (jk pre (es ++ [v])) (jf pre t es)), .own (.dat (encB (e :: t))), .own (tI v), .un, .un, .un, .un] := by
            intro R' hR'
            have hvm : v ∈ jk pre (es ++ [v]) := jk_mem.mpr (.inr (List.mem_append_right _ (List.mem_singleton.mpr rfl)))
            obtain ⟨i, hi, hil⟩ := get_of_mem hvm
            have hg : ((jk pre (es ++ [v])).map fun u => dT (jf pre t es u))[i]? = some (dT (jf pre t es v)) := getm hi
            unfold w__joined_j1
            trivial
            refine ⟨.int v, kI v, i, _, rfl, kI_ok v, getm hi, hg, ?_⟩
            simp only [isLst, mutApp, mutSet, mutN, placeT, List.getElem?_cons_zero, List.getElem?_cons_succ, List.set_cons_zero, List.set_cons_succ, Sl.tr, Sl.with, T.get?, T.put, List.nil_append, List.cons_append, Int.toNat_one, Int.toNat_zero, hg]
            trivial
            rw [ecut]
            have hjl := jf_le pre t es v
            refine ⟨encB t, keyB t, rfl, keyB_ok t, lt_sz (by rw [List.length_map]; omega), ?_⟩
            rw [jn_set hi]
            trivial
            exact hR' _ (hK2 _ ⟨_, rfl⟩)
          trivial
          refine ⟨.int v, kI v, rfl, kI_ok v, ?_⟩
          trivial
          rw [if_pos rfl]
          have hkd : decide (kI v ∈ (jk pre es).map kI) = decide (v ∈ jk pre es) := decide_eq_decide.mpr (mem_mapk kI_inj)
          rw [hkd]
          split
          · rename_i h
            have hv : v ∉ jk pre es := by simpa using h
            trivial
            refine ⟨.int v, kI v, rfl, kI_ok v, lt_sz (by rw [List.length_map]; omega), ?_⟩
            trivial
            rw [jn_new hv]
            exact step _ fun en h => h
          · rename_i h
            have hv : v ∈ jk pre es := by simpa using h
            trivial
            have e2 : jk pre es = jk pre (es ++ [v]) := by rw [jk_snoc, addk_mem hv]
            rw [e2]
            exact step _ fun en h => h
        · rintro en ⟨x3, rfl⟩
          trivial
          have ej : (fun v => jrest v (pre ++ [e :: t])) = jf pre t e := funext fun v => jf_done pre e t v
          exact hK _ ⟨_, _, by rw [jk_done, ej]⟩
      · rintro en ⟨x2, x3, rfl⟩
        trivial
        unfold w__joined_4
        trivial
        unfold w__joined_5
        trivial
        unfold w__joined_6
        trivial
        have hkn : ∀ v, v ∈ jk bs [] → v ∈ hds ss := fun v hv => by
          rcases jk_mem.mp hv with ⟨b, hb1, hb2⟩ | hv
          · exact hasV_hds hb hsame hb1 hb2
          · cases hv
        have hhl := hds_le ss
        have hjl : (jk bs []).length ≤ (hds ss).length := nodup_sub_len (jk_nodup _ _) hkn
        have hvs : (jk bs []).mergeSort leI = hds ss := vals_eq hb hs hsame (sort_SI (jk_nodup _ _)) fun v => by
          rw [mem_sortI, jk_mem]
          simp
        rw [kI_datas, sortD_I, hvs]
        refine ⟨sortOk_I (le_sz (by omega)), ?_⟩
        trivial
        refine forGo_pre PyData.int (hds ss) (fun pre en => ∃ x2 x3 x6 x7 : Sl T, en = [.own (tBs bs), .own (jnT (jk bs []) fun v => jrest v bs), x2, x3, .own (kT n (kk bs pre)), .own (gT n ss (gk n ss pre) pre), x6, x7]) ⟨_, _, _, _, rfl⟩ ?_ ?_
        · rintro pre v post en K hx hK ⟨x2, x3, x6, x7, rfl⟩
          have hvm : v ∈ hds ss := by rw [hx]; simp
          have hvj : v ∈ jk bs [] := by rw [← mem_sortI, hvs]; exact hvm
          obtain ⟨i, hi, hil⟩ := get_of_mem hvj
          have hplen := congrArg List.length hx
          rw [List.length_append, List.length_cons] at hplen
          have hvp : v ∉ pre := fun h => by
            have := hds_nodup ss
            rw [hx] at this
            exact (List.nodup_append.mp this).2.2 v h v (List.mem_cons_self ..) rfl
          have hkl : (kk bs pre).length ≤ pre.length := Nat.le_trans (dd_length_le _) (by rw [List.length_map]; exact Nat.le_refl _)
          have hgl : (gk n ss pre).length ≤ pre.length := Nat.le_trans (dd_length_le _) (by rw [List.length_map]; exact Nat.le_refl _)
          have hjr := jn_rest hb hs hsame v
          trivial
          refine ⟨.int v, kI v, i, _, rfl, kI_ok v, getm hi, getm hi, ?_⟩
          trivial
          simp only [kB_datas]
          refine ⟨encBs (jrest v bs), keyBs (jrest v bs), rfl, keyBs_ok _, ?_⟩
          -- behind the test
          have step : ∀ (R' : EndsD) (x2 x7 : Sl T), (∀ en, K en → R'.nx en) → w__joined_j3 m R' [.own (tBs bs), .own (jnT (jk bs []) fun v => jrest v bs), x2, .own (tI v), .own (kT n (kk bs (pre ++ [v]))), .own (gT n ss (gk n ss pre) pre), .own (.dat (encBs (jrest v bs))), x7] := by
            intro R' x2 x7 hR'
            obtain ⟨ik, hik, _⟩ := get_of_mem (k_in (bs := bs) (pre := pre) (v := v))
            have step2 : ∀ (R' : EndsD) (x2 : Sl T), (∀ en, K en → R'.nx en) → w__joined_j2 m R' [.own (tBs bs), .own (jnT (jk bs []) fun v => jrest v bs), x2, .own (tI v), .own (kT n (kk bs (pre ++ [v]))), .own (gT n ss (gk n ss (pre ++ [v])) pre), .own (.dat (encBs (jrest v bs))), .own (.dat (encBs (lb n (tls v ss))))] := by
              intro R' x2 hR'
              obtain ⟨ig, hig, _⟩ := get_of_mem (g_in (n := n) (ss := ss) (pre := pre) (v := v))
              have hg : ((gk n ss (pre ++ [v])).map (gV n ss pre))[ig]? = some (nIs (pre.filter fun u => decide (lb n (tls u ss) = lb n (tls v ss)))) := getm hig
              have hfl := List.length_filter_le (fun u => decide (lb n (tls u ss) = lb n (tls v ss))) pre
              unfold w__joined_j2
              trivial
              refine ⟨encBs (lb n (tls v ss)), keyBs (lb n (tls v ss)), ig, _, rfl, keyBs_ok _, getm hig, hg, ?_⟩
              trivial
              simp only [isLst, mutApp, mutSet, mutN, placeT, List.getElem?_cons_zero, List.getElem?_cons_succ, List.set_cons_zero, List.set_cons_succ, Sl.tr, Sl.with, T.get?, T.put, List.nil_append, List.cons_append, Int.toNat_one, Int.toNat_zero, hg]
              trivial
              refine ⟨lt_sz (by rw [List.length_map, List.length_map]; omega), ?_⟩
              rw [g_set (nodup_dd _) hig]
              trivial
              exact hR' _ (hK _ ⟨_, _, _, _, rfl⟩)
            unfold w__joined_j3
            trivial
            refine ⟨encBs (jrest v bs), keyBs (jrest v bs), ik, _, rfl, keyBs_ok _, getm hik, getm hik, ?_⟩
            rw [hjr]
            trivial
            refine ⟨encBs (lb n (tls v ss)), keyBs (lb n (tls v ss)), rfl, keyBs_ok _, ?_⟩
            trivial
            rw [if_pos rfl]
            have hkd : decide (keyBs (lb n (tls v ss)) ∈ (gk n ss pre).map keyBs) = decide (lb n (tls v ss) ∈ gk n ss pre) := decide_eq_decide.mpr (mem_mapk fun _ _ => keyBs_inj)
            rw [hkd]
            split
            · rename_i h
              have hv : lb n (tls v ss) ∉ gk n ss pre := by simpa using h
              trivial
              refine ⟨encBs (lb n (tls v ss)), keyBs (lb n (tls v ss)), rfl, keyBs_ok _, lt_sz (by rw [List.length_map]; omega), ?_⟩
              trivial
              rw [g_new hv]
              exact step2 _ _ fun en h => hR' _ h
            · rename_i h
              have hv : lb n (tls v ss) ∈ gk n ss pre := by simpa using h
              trivial
              rw [← g_old hv]
              exact step2 _ _ fun en h => hR' _ h
          trivial
          rw [if_pos True.intro]
          have hkd : decide (keyBs (jrest v bs) ∈ (kk bs pre).map keyBs) = decide (jrest v bs ∈ kk bs pre) := decide_eq_decide.mpr (mem_mapk fun _ _ => keyBs_inj)
          rw [hkd]
          split
          · rename_i h
            have hv : jrest v bs ∉ kk bs pre := by simpa using h
            trivial
            have htl := tls_le v ss
            have hrl := jrest_length v bs
            refine ⟨n, jrest v bs, tls v ss, by omega, rfl, jrest_ne hb v, by omega, hs.tls v, jrest_same hb hsame v, by omega, ?_⟩
            trivial
            refine ⟨encBs (jrest v bs), keyBs (jrest v bs), rfl, keyBs_ok _, lt_sz (by rw [List.length_map]; omega), ?_⟩
            trivial
            have hkn' := k_new (n := n) hv
            rw [hjr] at hkn'
            rw [← hkn'] at step
            exact step _ _ _ fun en h => h
          · rename_i h
            have hv : jrest v bs ∈ kk bs pre := by simpa using h
            trivial
            rw [← k_old hv]
            exact step _ _ _ fun en h => h
        · rintro en ⟨x2, x3, x6, x7, rfl⟩
          trivial
          unfold w__joined_7
          trivial
          rw [kBs_datas]
          have hgl : (gk n ss (hds ss)).length ≤ (hds ss).length := Nat.le_trans (dd_length_le _) (by rw [List.length_map]; exact Nat.le_refl _)
          have elb : lb (n + 1) ss = (gk n ss (hds ss)).flatMap fun key => key.map fun b => ((hds ss).filter fun v => decide (lb n (tls v ss) = key)) :: b := (laid_lb hs (hsame.allLen fun b hb' => (hb b hb').1)).symm
          have hll := lb_length (n + 1) ss
          refine lcGo_pre encBs (gk n ss (hds ss)) (fun pre acc en => acc = ((pre.flatMap fun key => key.map fun b => ((hds ss).filter fun v => decide (lb n (tls v ss) = key)) :: b).map encB).map T.dat ∧ ∃ y3 y6 : Sl T, en = [.own (tBs bs), .own (jnT (jk bs []) fun v => jrest v bs), .un, y3, .own (kT n (kk bs (hds ss))), .own (gT n ss (gk n ss (hds ss)) (hds ss)), y6, .un]) ⟨rfl, _, _, rfl⟩ ?_ ?_
          · rintro pre key post acc en K hx hK ⟨rfl, y3, y6, rfl⟩
            have hkm : key ∈ gk n ss (hds ss) := by rw [hx]; simp
            obtain ⟨i, hi, _⟩ := get_of_mem hkm
            have hkl : ∀ b ∈ key, b.length = n := fun b hb' => by
              obtain ⟨u, _, rfl⟩ := List.mem_map.mp (mem_dd.mp hkm)
              exact (lb_ok n _ b hb').1
            have htot : (pre.flatMap fun key => key.map fun b => ((hds ss).filter fun v => decide (lb n (tls v ss) = key)) :: b).length + key.length ≤ (lb (n + 1) ss).length := by
              rw [elb, hx, List.flatMap_append, List.flatMap_cons, List.length_append, List.length_append, List.length_map]
              omega
            trivial
            refine lcGo_pre encB key (fun pre2 acc en => acc = (((pre.flatMap fun key => key.map fun b => ((hds ss).filter fun v => decide (lb n (tls v ss) = key)) :: b) ++ pre2.map fun b => ((hds ss).filter fun v => decide (lb n (tls v ss) = key)) :: b).map encB).map T.dat ∧ ∃ y3 y6 : Sl T, en = [.own (tBs bs), .own (jnT (jk bs []) fun v => jrest v bs), .un, y3, .own (kT n (kk bs (hds ss))), .own (gT n ss (gk n ss (hds ss)) (hds ss)), y6, .own (.dat (encBs key))]) ⟨by rw [List.map_nil, List.append_nil], _, _, rfl⟩ ?_ ?_
            · rintro pre2 b post2 acc en K2 hx2 hK2 ⟨rfl, y3, y6, rfl⟩
              have hbl := hkl b (by rw [hx2]; simp)
              have hlen2 := congrArg List.length hx2
              rw [List.length_append, List.length_cons] at hlen2
              trivial
              refine ⟨encBs key, keyBs key, i, _, rfl, keyBs_ok _, getm hi, getm hi, ?_⟩
              trivial
              refine ⟨le_sz (n := 1) (by decide), ?_⟩
              trivial
              refine ⟨le_sz (by rw [List.length_map]; show 1 + b.length ≤ _; omega), ?_⟩
              trivial
              refine ⟨lt_sz (by rw [List.length_map, List.length_map, List.length_append, List.length_map]; omega), ?_⟩
              exact hK2 _ _ ⟨by rw [List.map_append (l₁ := pre2), ← List.append_assoc, List.map_append (l₂ := [b].map _), List.map_append (l₂ := ([b].map _).map _)]; rfl, _, _, rfl⟩
            · rintro acc en ⟨rfl, y3, y6, rfl⟩
              trivial
              exact hK _ _ ⟨by rw [List.flatMap_append, List.flatMap_singleton], _, _, rfl⟩
          · rintro acc en ⟨rfl, y3, y6, rfl⟩
            trivial
            rw [elb] at hR
            exact hR
end R09

set_option maxRecDepth 100000
set_option maxHeartbeats 0
namespace R09
open PySem PySem.Spec PyProof.Rows L2 DL

local macro_rules | `(tactic| trivial) => `(tactic| ((conv => whnf); first | (refine ⟨_, _, rfl, rfl, ?_⟩; trivial) | (refine ⟨rfl, rfl, ?_⟩; trivial) | (refine ⟨_, rfl, ?_⟩; trivial) | (refine ⟨_, _, rfl, ?_⟩; trivial) | (refine ⟨Nat.zero_le _, ?_⟩; trivial) | (rw [lst_data]; trivial) | (rw [lst_sqK]; trivial) | (rw [lst_sqD]; trivial) | (rw [lst_lsD]; trivial) | (rw [lst_lsK]; trivial) | skip))
theorem p_boxes_of : ∀ ts R, S_boxes_of ts R → w_boxes_of 9 (endsOf ts R) (startD 4 ts) := by
  rintro ts R ⟨n, z, rows, hn, rfl, hal, hlen, hR⟩
  have hsame : SameSet (rows.map fun s => s.map fun v => [v]) (sd rows) := fun s => by
    rw [mem_sd, inAny_iff]
    have key : ∀ r s : St, inB (r.map fun v => [v]) s = true ↔ s = r := by
      intro r
      induction r with
      | nil => intro s; cases s <;> simp [inB]
      | cons a r ih => intro s; cases s with
        | nil => simp [inB]
        | cons b s => simp [inB, ih]
    constructor
    · rintro ⟨b, hb, e⟩
      obtain ⟨r, hr, rfl⟩ := List.mem_map.mp hb
      rw [(key r s).mp e]; exact hr
    · intro h
      exact ⟨_, List.mem_map.mpr ⟨s, h, rfl⟩, (key s s).mpr rfl⟩
  trivial
  refine lcGo_pre encS rows (fun pre acc en => acc = ((pre.map fun s => s.map fun v => [v]).map encB).map T.dat ∧ ∃ y2 y3 : Sl T, en = [.own (tS z), .own (tSs rows), y2, y3]) ⟨rfl, _, _, rfl⟩ ?_ ?_
  · rintro pre s post acc en K hx hK ⟨rfl, y2, y3, rfl⟩
    have hsl := hal s (by rw [hx]; simp)
    have hplen := congrArg List.length hx
    rw [List.length_append, List.length_cons] at hplen
    trivial
    refine lcGo_pre PyData.int s (fun pre2 acc en => acc = ((pre2.map fun v => [v]).map encS).map T.dat ∧ ∃ y2 y3 : Sl T, en = [.own (tS z), .own (tSs rows), y2, y3]) ⟨rfl, _, _, rfl⟩ ?_ ?_
    · rintro pre2 v post2 acc en K2 hx2 hK2 ⟨rfl, y2, y3, rfl⟩
      have hlen2 := congrArg List.length hx2
      rw [List.length_append, List.length_cons] at hlen2
      trivial
      refine ⟨le_sz (n := 1) (by decide), ?_⟩
      trivial
      refine ⟨lt_sz (by rw [List.length_map, List.length_map, List.length_map]; omega), ?_⟩
      exact hK2 _ _ ⟨by simp [encS], _, _, rfl⟩
    · rintro acc en ⟨rfl, y2, y3, rfl⟩
      trivial
      refine ⟨lt_sz (by rw [List.length_map, List.length_map, List.length_map]; omega), ?_⟩
      exact hK _ _ ⟨by simp [encB], _, _, rfl⟩
  · rintro acc en ⟨rfl, y2, y3, rfl⟩
    trivial
    refine ⟨n, rows.map fun s => s.map fun v => [v], sd rows, by omega, rfl, ?_, by rw [List.length_map]; exact hlen, sd_SS _, hsame, Nat.le_trans (sd_length _) hlen, ?_⟩
    · intro b hb
      obtain ⟨r, hr, rfl⟩ := List.mem_map.mp hb
      refine ⟨by rw [List.length_map]; exact hal r hr, fun e he => ?_⟩
      obtain ⟨v, _, rfl⟩ := List.mem_map.mp he
      simp
    · trivial
      exact hR
theorem kS_datas (l : List St) : (l.map keyS).map NestedKey.data = l.map encS := by rw [List.map_map]; exact List.map_congr_left fun b _ => keyS_data b
theorem boxIn_prod : ∀ {z : List Int} {b : Bx}, BoxIn z b → (b.map List.length).prod ≤ (z.map Int.toNat).prod
  | [], [], _ => Nat.le_refl _
  | [], _ :: _, h => h.elim
  | _ :: _, [], h => h.elim
  | s :: z, e :: b, h => by
    rw [List.map_cons, List.map_cons, List.prod_cons, List.prod_cons]
    refine Nat.mul_le_mul ?_ (boxIn_prod h.2)
    rw [← rngI_length s]
    exact nodup_sub_len h.1.2.1 fun v hv => mem_rngI.mpr (h.1.2.2 v hv)
theorem box_rows {z : List Int} {b pre post : Bx} (h : BoxIn z b) (hp : (z.map Int.toNat).prod ≤ 1024) (e : b = pre ++ post) : (rowsB pre).length ≤ 1024 := by
  rw [rowsB_length]
  refine Nat.le_trans ?_ (Nat.le_trans (boxIn_prod h) hp)
  rw [e, List.map_append]
  refine prod_pre fun x hx => ?_
  rw [← List.map_append, ← e] at hx
  obtain ⟨y, hy, rfl⟩ := List.mem_map.mp hx
  exact Nat.pos_of_ne_zero fun q => (h.entry y hy).1 (List.eq_nil_of_length_eq_zero q)
theorem p_states_of : ∀ ts R, S_states_of ts R → w_states_of (endsOf ts R) (startD 7 ts) := by
  rintro ts R ⟨z, bs, rfl, hz, hreg, hR⟩
  have hmem : ∀ pre post : List Bx, bs = pre ++ post → ∀ s ∈ pre.flatMap rowsB, s ∈ every z := fun pre post e s hs => by
    obtain ⟨b, hb, h⟩ := List.mem_flatMap.mp hs
    exact (hreg.1 b (by rw [e]; exact List.mem_append_left _ hb)).every ((mem_rowsB b s).mp h)
  have hev := every_len hz
  have fin : ∀ (fd : List St) (x2 x3 x4 x5 x6 : Sl T), fd = dd (bs.flatMap rowsB) → w_states_of_2 (endsOf [tBs bs] R) [.own (tBs bs), .own (tK fd), x2, x3, x4, x5, x6] := by
    rintro fd x2 x3 x4 x5 x6 rfl
    unfold w_states_of_2
    trivial
    rw [kS_datas, sortD_S]
    refine ⟨sortOk_S (fun s hs e => ?_) (le_sz ?_), ?_⟩
    · have := (mem_every (hmem bs [] (by simp) s (mem_dd.mp hs))).1
      rw [e] at this
      exact hz.ne (List.eq_nil_of_length_eq_zero this.symm)
    · have := nodup_sub_len (m := every z) (nodup_dd (bs.flatMap rowsB)) fun s hs => hmem bs [] (by simp) s (mem_dd.mp hs)
      omega
    · trivial
      exact hR
  trivial
  unfold w_states_of_1
  trivial
  refine forGo_pre encB bs (fun pre en => ∃ x2 x3 x4 x5 x6 : Sl T, en = [.own (tBs bs), .own (tK (dd (pre.flatMap rowsB))), x2, x3, x4, x5, x6]) ⟨_, _, _, _, _, rfl⟩ ?_ ?_
  · rintro pre b post en K hx hK ⟨x2, x3, x4, x5, x6, rfl⟩
    have hbi := hreg.1 b (by rw [hx]; simp)
    have hz8 := hz.len
    have hbl := hbi.len
    trivial
    refine ⟨le_sz (n := 1) (by decide), ?_⟩
    trivial
    refine forGo_pre encS b (fun pre2 en => ∃ x4 x5 x6 : Sl T, en = [.own (tBs bs), .own (tK (dd (pre.flatMap rowsB))), .own (.dat (encB b)), .own (nSs (rowsB pre2)), x4, x5, x6]) ⟨_, _, _, rfl⟩ ?_ ?_
    · rintro pre2 e post2 en K2 hx2 hK2 ⟨x4, x5, x6, rfl⟩
      have hr1 := box_rows hbi hz.prod hx2
      have hr2 := box_rows (pre := pre2 ++ [e]) (post := post2) hbi hz.prod (by rw [hx2]; simp)
      rw [rowsB_snoc] at hr2
      have hpl := congrArg List.length hx2
      rw [List.length_append, List.length_cons] at hpl
      trivial
      refine lcGo_pre encS (rowsB pre2) (fun pre3 acc en => acc = ((pre3.flatMap fun r => e.map fun v => r ++ [v]).map encS).map T.dat ∧ ∃ y5 y6 : Sl T, en = [.own (tBs bs), .own (tK (dd (pre.flatMap rowsB))), .own (.dat (encB b)), .own (nSs (rowsB pre2)), .own (tS e), y5, y6]) ⟨rfl, _, _, rfl⟩ ?_ ?_
      · rintro pre3 r post3 acc en K3 hx3 hK3 ⟨rfl, y5, y6, rfl⟩
        have hrl : r.length = pre2.length := rowsB_len (by rw [hx3]; simp)
        have htot : (pre3.flatMap fun r => e.map fun v => r ++ [v]).length + e.length ≤ 1024 := by
          refine Nat.le_trans ?_ hr2
          rw [hx3, List.flatMap_append, List.flatMap_cons, List.length_append, List.length_append, List.length_map]
          omega
        trivial
        refine lcGo_pre PyData.int e (fun pre4 acc en => acc = (((pre3.flatMap fun r => e.map fun v => r ++ [v]) ++ pre4.map fun v => r ++ [v]).map encS).map T.dat ∧ ∃ y6 : Sl T, en = [.own (tBs bs), .own (tK (dd (pre.flatMap rowsB))), .own (.dat (encB b)), .own (nSs (rowsB pre2)), .own (tS e), .own (tS r), y6]) ⟨by rw [List.map_nil, List.append_nil], _, rfl⟩ ?_ ?_
        · rintro pre4 v post4 acc en K4 hx4 hK4 ⟨rfl, y6, rfl⟩
          have hlen4 := congrArg List.length hx4
          rw [List.length_append, List.length_cons] at hlen4
          trivial
          refine ⟨le_sz (n := 1) (by decide), ?_⟩
          trivial
          refine ⟨le_sz (by rw [List.length_map]; show r.length + 1 ≤ _; omega), ?_⟩
          trivial
          refine ⟨lt_sz (by rw [List.length_map, List.length_map, List.length_append, List.length_map]; omega), ?_⟩
          exact hK4 _ _ ⟨by rw [List.map_append (l₁ := pre4), ← List.append_assoc, List.map_append (l₂ := [v].map _), List.map_append (l₂ := ([v].map _).map _), ← encS_snoc]; rfl, _, rfl⟩
        · rintro acc en ⟨rfl, y6, rfl⟩
          trivial
          exact hK3 _ _ ⟨by rw [List.flatMap_append, List.flatMap_singleton], _, _, rfl⟩
      · rintro acc en ⟨rfl, y5, y6, rfl⟩
        trivial
        exact hK2 _ ⟨_, _, _, by rw [rowsB_snoc]; rfl⟩
    · rintro en ⟨x4, x5, x6, rfl⟩
      trivial
      unfold w_states_of_j1
      trivial
      refine forGo_pre encS (rowsB b) (fun pre3 en => ∃ x4 x5 x6 : Sl T, en = [.own (tBs bs), .own (tK (dd (pre.flatMap rowsB ++ pre3))), .own (.dat (encB b)), .out true, x4, x5, x6]) ?_ ?_ ?_
      · exact ⟨_, _, _, by rw [List.append_nil]; rfl⟩
      · rintro pre3 r post3 en K3 hx3 hK3 ⟨x4, x5, x6, rfl⟩
        have hsz : (dd (pre.flatMap rowsB ++ pre3)).length ≤ 1024 := by
          refine Nat.le_trans (nodup_sub_len (m := every z) (nodup_dd _) fun s hs => ?_) hev.2
          rcases List.mem_append.mp (mem_dd.mp hs) with h | h
          · exact hmem pre (b :: post) hx s h
          · exact hbi.every ((mem_rowsB b s).mp (by rw [hx3]; exact List.mem_append_left _ h))
        trivial
        refine ⟨encS r, keyS r, rfl, keyS_ok r, lt_sz (by rw [List.length_map]; omega), ?_⟩
        trivial
        obtain ⟨h1, h2⟩ := put_true (kf := keyS) (fun _ _ => keyS_inj) (nodup_dd (pre.flatMap rowsB ++ pre3)) r
        exact hK3 _ ⟨_, _, _, by rw [← List.append_assoc, dd_addk, h1, h2]; rfl⟩
      · rintro en ⟨x4, x5, x6, rfl⟩
        trivial
        rw [List.flatMap_append, List.flatMap_singleton] at hK
        exact hK _ ⟨_, _, _, _, _, rfl⟩
  · rintro en ⟨x2, x3, x4, x5, x6, rfl⟩
    trivial
    exact fin _ _ _ _ _ _ rfl
end R09

set_option maxRecDepth 100000
set_option maxHeartbeats 0
namespace R09
open PySem PySem.Spec PyProof.Rows L2 DL

local macro_rules | `(tactic| trivial) => `(tactic| ((conv => whnf); first | (refine ⟨_, _, rfl, rfl, ?_⟩; trivial) | (refine ⟨rfl, rfl, ?_⟩; trivial) | (refine ⟨_, rfl, ?_⟩; trivial) | (refine ⟨_, _, rfl, ?_⟩; trivial) | (refine ⟨Nat.zero_le _, ?_⟩; trivial) | (rw [lst_data]; trivial) | (rw [lst_sqK]; trivial) | (rw [lst_sqD]; trivial) | (rw [lst_lsD]; trivial) | (rw [lst_lsK]; trivial) | skip))
theorem ins_inj : ∀ (k : Nat) (u : Int) (a b : St), ins k u a = ins k u b → a = b
  | 0, u, a, b, h => by injection h
  | k + 1, u, [], [], _ => rfl
  | k + 1, u, [], y :: b, h => by
    have := congrArg List.length h
    rw [ins_length, ins_length] at this
    simp at this
  | k + 1, u, x :: a, [], h => by
    have := congrArg List.length h
    rw [ins_length, ins_length] at this
    simp at this
  | k + 1, u, x :: a, y :: b, h => by
    have h : x :: ins k u a = y :: ins k u b := h
    injection h with h1 h2
    rw [h1, ins_inj k u a b h2]
theorem sls_states {z : List Int} {bs : List Bx} {k n : Nat} {v : Int} (hk : k < z.length) (hb : ∀ b ∈ bs, BoxIn z b) : (sd ((sls k bs v).flatMap rowsB)).length ≤ (every z).length := by
  have hl : ∀ b ∈ bs, k < b.length := fun b h => by rw [(hb b h).len]; exact hk
  have h1 : ((sd ((sls k bs v).flatMap rowsB)).map (ins k v)).Nodup := List.Pairwise.map _ (fun a b (hab : a ≠ b) e => hab (ins_inj k v a b e)) (SS.nodup (sd_SS _))
  have h2 := nodup_sub_len (m := every z) h1 fun s hs => by
    obtain ⟨t, ht, rfl⟩ := List.mem_map.mp hs
    have := (same_sd (bs := sls k bs v) t).mpr ht
    rw [inAny_sls hl] at this
    obtain ⟨b, hb1, hb2⟩ := inAny_iff.mp this
    exact (hb b hb1).every hb2
  rw [List.length_map] at h2
  exact h2
theorem sls_snoc (k : Nat) (pre : List Bx) (b : Bx) (v : Int) : sls k (pre ++ [b]) v = sls k pre v ++ (if v ∈ b.getD k [] then [b.eraseIdx k] else []) := by
  unfold sls
  rw [List.filter_append, List.map_append]
  congr 1
  by_cases h : v ∈ b.getD k []
  · rw [if_pos h, List.filter_cons, if_pos (decide_eq_true h)]; rfl
  · rw [if_neg h, List.filter_cons, if_neg (by simpa using h)]; rfl
theorem sls_le (k : Nat) (pre : List Bx) (v : Int) : (sls k pre v).length ≤ pre.length := by
  unfold sls
  rw [List.length_map]
  exact List.length_filter_le _ _
theorem p_is_seen : ∀ ts R, S__is_seen ts R → w__is_seen 9 (endsOf ts R) (startD 8 ts) := by
  rintro ts R ⟨z, bs, ss, k, rfl, hk, hz, hreg, hs, hsame, hR⟩
  obtain ⟨n, hn⟩ : ∃ n, z.length = n + 1 := ⟨z.length - 1, by omega⟩
  have hz8 := hz.len
  have hev := every_len hz
  have hzk : 1 ≤ z.getD k 0 ∧ z.getD k 0 ≤ 16 := hz.rng _ (by rw [List.getD_eq_getElem?_getD, List.getElem?_eq_getElem hk]; exact List.getElem_mem hk)
  trivial
  unfold w__is_seen_1
  trivial
  refine ⟨by omega, by omega, ?_⟩
  trivial
  rw [rngD_eq]
  refine forGo_pre PyData.int (rngI (z.getD k 0)) (fun pre en => ∃ x4 x5 x7 : Sl T, en = [.own (tI (z.getD k 0)), .own (tBs bs), .own (tI k), .own (.nd (.dic true ((dd (pre.map (sls k bs))).map keyBs)) ((dd (pre.map (sls k bs))).map fun _ => tB true)), x4, x5, .un, x7]) ⟨_, _, _, rfl⟩ ?_ ?_
  · rintro pre v post en K hx hK ⟨x4, x5, x7, rfl⟩
    have hplen := congrArg List.length hx
    rw [List.length_append, rngI_length, List.length_cons] at hplen
    have hdl := dd_length_le (pre.map (sls k bs))
    rw [List.length_map] at hdl
    trivial
    refine lcGo_pre encB bs (fun pre2 acc en => acc = ((sls k pre2 v).map encB).map T.dat ∧ ∃ y5 y7 : Sl T, en = [.own (tI (z.getD k 0)), .own (tBs bs), .own (tI k), .own (.nd (.dic true ((dd (pre.map (sls k bs))).map keyBs)) ((dd (pre.map (sls k bs))).map fun _ => tB true)), .own (tI v), y5, .un, y7]) ⟨rfl, _, _, rfl⟩ ?_ ?_
    · rintro pre2 b post2 acc en K2 hx2 hK2 ⟨rfl, y5, y7, rfl⟩
      have hbl : b.length = z.length := (hreg.1 b (by rw [hx2]; simp)).len
      have hp2 := congrArg List.length hx2
      rw [List.length_append, List.length_cons] at hp2
      have hreg2 := hreg.2
      have hsl := sls_le k pre2 v
      have hkb : k < b.length := by omega
      trivial
      refine ⟨k, _, by rw [List.length_map, List.length_map]; exact ixN_nat hkb, by rw [md_map]; exact getD_at b _ [] hkb, ?_⟩
      trivial
      refine ⟨inOk_ints _ _, ?_⟩
      trivial
      rw [any_ints]
      split
      · rename_i h
        have h : v ∈ b.getD k [] := by simpa using h
        trivial
        have ee : PyData.tuple (cut (b.map encS) none (some (k : Int)) ++ cut (b.map encS) (some ((k : Int) + 1)) none) = encB (b.eraseIdx k) := by
          rw [cut_upto, show ((k : Int) + 1) = ((k + 1 : Nat) : Int) from rfl, cut_from, List.eraseIdx_eq_take_drop_succ]
          unfold encB
          rw [List.map_append, List.map_take, List.map_drop]
        have hc1 := cut_length (b.map encS) none (some (k : Int))
        have hc2 := cut_length (b.map encS) (some ((k : Int) + 1)) none
        rw [List.length_map] at hc1 hc2
        refine ⟨le_sz (by omega), ?_⟩
        rw [ee]
        trivial
        refine ⟨lt_sz (by rw [List.length_map, List.length_map]; omega), ?_⟩
        exact hK2 _ _ ⟨by rw [sls_snoc, if_pos h, List.map_append, List.map_append]; rfl, _, _, rfl⟩
      · rename_i h
        have h : v ∉ b.getD k [] := by simpa using h
        exact hK2 _ _ ⟨by rw [sls_snoc, if_neg h, List.append_nil], _, _, rfl⟩
    · rintro acc en ⟨rfl, y5, y7, rfl⟩
      trivial
      refine ⟨encBs (sls k bs v), keyBs (sls k bs v), rfl, keyBs_ok _, lt_sz (by rw [List.length_map]; omega), ?_⟩
      trivial
      obtain ⟨h1, h2⟩ := put_true (kf := keyBs) (fun _ _ => keyBs_inj) (nodup_dd (pre.map (sls k bs))) (sls k bs v)
      exact hK _ ⟨_, _, _, by rw [h1, h2, List.map_append (l₁ := pre), List.map_singleton, dd_addk]; rfl⟩
  · rintro en ⟨x4, x5, x7, rfl⟩
    have hdl := dd_length_le ((rngI (z.getD k 0)).map (sls k bs))
    rw [List.length_map, rngI_length] at hdl
    trivial
    unfold w__is_seen_2
    trivial
    unfold w__is_seen_3
    trivial
    rw [kBs_datas]
    refine forGo_pre encBs (dd ((rngI (z.getD k 0)).map (sls k bs))) (fun pre en => ∃ x4 x5 x7 : Sl T, en = [.own (tI (z.getD k 0)), .own (tBs bs), .own (tI k), .out true, x4, x5, .own (.nd (.dic true ((dd (pre.map (jn n))).map keyBs)) ((dd (pre.map (jn n))).map fun _ => tB true)), x7]) ⟨_, _, _, rfl⟩ ?_ ?_
    · rintro pre rs post en K hx hK ⟨x4, x5, x7, rfl⟩
      have hrm : rs ∈ dd ((rngI (z.getD k 0)).map (sls k bs)) := by rw [hx]; simp
      obtain ⟨v, hv, rfl⟩ := List.mem_map.mp (mem_dd.mp hrm)
      have hplen := congrArg List.length hx
      rw [List.length_append, List.length_cons] at hplen
      have hjl := dd_length_le (pre.map (jn n))
      rw [List.length_map] at hjl
      have hst := sls_states (n := n) (v := v) hk hreg.1
      trivial
      refine ⟨n, sls k bs v, sd ((sls k bs v).flatMap rowsB), by omega, rfl, sls_ne (fun b hb => by have := (hreg.1 b hb).ne; rw [hn] at this; exact this) (by omega) v, Nat.le_trans (sls_le k bs v) hreg.2, sd_SS _, same_sd, by omega, ?_⟩
      trivial
      refine ⟨encBs (jn n (sls k bs v)), keyBs (jn n (sls k bs v)), rfl, keyBs_ok _, lt_sz (by rw [List.length_map]; omega), ?_⟩
      trivial
      obtain ⟨h1, h2⟩ := put_true (kf := keyBs) (fun _ _ => keyBs_inj) (nodup_dd (pre.map (jn n))) (jn n (sls k bs v))
      exact hK _ ⟨_, _, _, by rw [h1, h2, List.map_append (l₁ := pre), List.map_singleton, dd_addk]; rfl⟩
    · rintro en ⟨x4, x5, x7, rfl⟩
      trivial
      unfold w__is_seen_4
      trivial
      have := seen_iff hn hk hreg.1 hsame
      rw [← this] at hR
      have e : decide ((1 : Int) < ((((dd ((dd ((rngI (z.getD k 0)).map (sls k bs))).map (jn n))).map keyBs).length : Nat) : Int)) = decide (1 < (dd ((dd ((rngI (z.getD k 0)).map (sls k bs))).map (jn n))).length) := decide_eq_decide.mpr (by rw [List.length_map]; omega)
      rw [← e] at hR
      exact hR
theorem enum_z (z : List Int) : enumD (z.map PyData.int) = (List.range z.length).map fun i => PyData.tuple [.int ((i : Nat) : Int), .int (z.getD i 0)] := by
  unfold enumD
  refine List.ext_getElem? fun i => ?_
  rw [List.getElem?_map, List.getElem?_map, List.getElem?_zipIdx, List.getElem?_map]
  by_cases h : i < z.length
  · rw [List.getElem?_eq_getElem h, List.getElem?_range h]
    simp [List.getD_eq_getElem?_getD, List.getElem?_eq_getElem h]
  · rw [List.getElem?_eq_none (by omega), List.getElem?_eq_none (by simp; omega)]
    rfl
theorem p_seen_by : ∀ ts R, S_seen_by ts R → w_seen_by (endsOf ts R) (startD 5 ts) := by
  rintro ts R ⟨z, bs, ss, rfl, hz, hreg, hs, hsame, hR⟩
  have hz8 := hz.len
  trivial
  unfold w_seen_by_1
  trivial
  rw [enum_z]
  refine forGo_pre (fun i : Nat => PyData.tuple [.int ((i : Nat) : Int), .int (z.getD i 0)]) (List.range z.length) (fun pre en => ∃ x3 x4 : Sl T, en = [.own (tS z), .own (tBs bs), .own (nNs (pre.filter (difF z ss))), x3, x4]) ⟨_, _, rfl⟩ ?_ ?_
  · rintro pre i post en K hx hK ⟨x3, x4, rfl⟩
    have hi : i < z.length := List.mem_range.mp (by rw [hx]; simp)
    have hplen := congrArg List.length hx
    rw [List.length_append, List.length_cons, List.length_range] at hplen
    have hfl := List.length_filter_le (difF z ss) pre
    trivial
    refine ⟨z, bs, ss, i, rfl, hi, hz, hreg, hs, hsame, ?_⟩
    trivial
    split
    · rename_i h
      trivial
      refine ⟨lt_sz (by rw [List.length_map, List.length_map]; omega), ?_⟩
      have e : nNs ((pre ++ [i]).filter (difF z ss)) = .nd .lst (((pre.filter (difF z ss)).map fun i : Nat => PyData.int ((i : Nat) : Int)).map T.dat ++ [.dat (.int ((i : Nat) : Int))]) := by
        rw [List.filter_append, List.filter_cons, if_pos h, List.filter_nil]
        exact snoc_lst (fun i : Nat => PyData.int ((i : Nat) : Int)) _ i
      exact hK _ ⟨_, _, by rw [e]; rfl⟩
    · rename_i h
      have e : (pre ++ [i]).filter (difF z ss) = pre.filter (difF z ss) := by
        rw [List.filter_append, List.filter_cons, if_neg (by rw [h]; simp), List.filter_nil, List.append_nil]
      exact hK _ ⟨_, _, by rw [e]; rfl⟩
  · rintro en ⟨x3, x4, rfl⟩
    trivial
    unfold w_seen_by_2
    trivial
    exact hR
theorem eqv_Ss (l : List St) : PyData.eqv (.list (l.map encS)) (.list (l.map encS)) = true := by rw [eqv_lst, eqvAll_map eqv_S, decide_eq_true rfl]
theorem eqv_Bs (l : List Bx) : PyData.eqv (.list (l.map encB)) (.list (l.map encB)) = true := by rw [eqv_lst, eqvAll_map eqv_B, decide_eq_true rfl]
theorem eqv_Ns (l : List Nat) : PyData.eqv (.list (l.map fun i : Nat => PyData.int ((i : Nat) : Int))) (.list (l.map fun i : Nat => PyData.int ((i : Nat) : Int))) = true := by
  rw [eqv_lst, eqvAll_map (f := fun i : Nat => PyData.int ((i : Nat) : Int)) (fun a b => by rw [eqv_int]; exact decide_eq_decide.mpr (by omega)), decide_eq_true rfl]
theorem shaped_Ns (l : List Nat) : SeqAt.shaped (.list (l.map fun i : Nat => PyData.int ((i : Nat) : Int))) = true := shaped_list (n := 0) (fun _ => by simp [PyData.canLay0]) (fun _ => by simp [PyData.depth]) (by decide) l
theorem p_states_told : ∀ ts R, S__law_states_told ts R → w__law_states_told (endsOf ts R) (startD 4 ts) := by
  rintro ts R ⟨z, bs, ss, rfl, hz, hreg, hs, hsame, hR⟩
  have hss := sd_eq hs hsame
  trivial
  unfold w__law_states_told_1
  trivial
  refine ⟨z, bs, rfl, hz, hreg, ?_⟩
  rw [hss]
  trivial
  unfold w__law_states_told_2
  trivial
  refine ⟨shaped_Ss ss, shaped_Ss ss, ?_⟩
  trivial
  rw [eqv_Ss]
  trivial
  refine ⟨shaped_Bs bs, shaped_Bs bs, ?_⟩
  trivial
  rw [eqv_Bs]
  trivial
  unfold w__law_states_told_3
  trivial
  have hlen : ss.length ≤ 65536 := by
    have h1 := nodup_sub_len (m := every z) hs.nodup (hreg.every hsame)
    have h2 := every_len hz
    omega
  refine ⟨lt_sz (by rw [List.length_map, List.length_map]; omega), ?_⟩
  trivial
  unfold w__law_states_told_4
  trivial
  have hl : (((ss.map encS).map T.dat) ++ [T.dat (PyData.tuple [])]).length = ss.length + 1 := by simp
  refine ⟨ss.length, .dat (.tuple []), by rw [hl]; exact ixN_last ss.length, by rw [List.getElem?_append_right (by simp)]; simp, ?_⟩
  trivial
  refine ⟨0, by rw [hl]; exact ixN_nat (i := 0) (by omega), ?_⟩
  trivial
  unfold w__law_states_told_5
  trivial
  refine ⟨z, bs, rfl, hz, hreg, ?_⟩
  rw [hss]
  trivial
  refine ⟨shaped_Ss ss, shaped_Ss ss, ?_⟩
  rw [eqv_Ss]
  trivial
  exact hR
theorem p_boxes_told : ∀ ts R, S__law_boxes_told ts R → w__law_boxes_told (endsOf ts R) (startD 5 ts) := by
  rintro ts R ⟨n, z, rows, rfl, hn, hal, hlen, hR⟩
  trivial
  unfold w__law_boxes_told_1
  trivial
  refine ⟨n, z, rows, hn, rfl, hal, hlen, ?_⟩
  trivial
  unfold w__law_boxes_told_2
  trivial
  have hbl : (lb n (sd rows)).length ≤ 65536 := Nat.le_trans (lb_length _ _) (Nat.le_trans (sd_length _) hlen)
  generalize hdue : lb n (sd rows) = due at hR hbl ⊢
  refine ⟨shaped_Bs due, shaped_Bs due, ?_⟩
  trivial
  rw [eqv_Bs]
  trivial
  refine ⟨shaped_Ss rows, shaped_Ss rows, ?_⟩
  trivial
  rw [eqv_Ss]
  trivial
  unfold w__law_boxes_told_3
  trivial
  refine ⟨lt_sz (by rw [List.length_map, List.length_map]; omega), ?_⟩
  trivial
  unfold w__law_boxes_told_4
  trivial
  have hl : (((due.map encB).map T.dat) ++ [T.dat (PyData.tuple [])]).length = due.length + 1 := by simp
  refine ⟨due.length, .dat (.tuple []), by rw [hl]; exact ixN_last due.length, by rw [List.getElem?_append_right (by simp)]; simp, ?_⟩
  trivial
  refine ⟨0, by rw [hl]; exact ixN_nat (i := 0) (by omega), ?_⟩
  trivial
  unfold w__law_boxes_told_5
  trivial
  refine ⟨n, z, rows, hn, rfl, hal, hlen, ?_⟩
  rw [hdue]
  trivial
  refine ⟨shaped_Bs due, shaped_Bs due, ?_⟩
  rw [eqv_Bs]
  trivial
  exact hR
theorem p_seen_told : ∀ ts R, S__law_seen_told ts R → w__law_seen_told (endsOf ts R) (startD 5 ts) := by
  rintro ts R ⟨z, bs, ss, rfl, hz, hreg, hs, hsame, hR⟩
  trivial
  unfold w__law_seen_told_1
  trivial
  refine ⟨z, bs, ss, rfl, hz, hreg, hs, hsame, ?_⟩
  trivial
  unfold w__law_seen_told_2
  trivial
  refine ⟨(seenF z ss).map fun i : Nat => ((i : Nat) : Int), by
    show [T.dat (.tuple _)] = [T.dat (.tuple (List.map _ (List.map _ _)))]
    rw [List.map_map]; rfl, ?_⟩
  trivial
  unfold w__law_seen_told_3
  trivial
  refine ⟨shaped_Ns _, shaped_Ns _, ?_⟩
  trivial
  rw [eqv_Ns]
  trivial
  refine ⟨shaped_Bs bs, shaped_Bs bs, ?_⟩
  trivial
  rw [eqv_Bs]
  trivial
  unfold w__law_seen_told_4
  trivial
  have hfl : (seenF z ss).length ≤ 8 := Nat.le_trans (List.length_filter_le _ _) (by rw [List.length_range]; exact hz.len)
  refine ⟨lt_sz (by rw [List.length_map, List.length_map]; omega), ?_⟩
  trivial
  unfold w__law_seen_told_5
  trivial
  refine ⟨z, bs, ss, rfl, hz, hreg, hs, hsame, ?_⟩
  trivial
  refine ⟨shaped_Ns _, shaped_Ns _, ?_⟩
  rw [eqv_Ns]
  trivial
  exact hR
theorem p_inside_told : ∀ ts R, S__law_inside_told ts R → w__law_inside_told (endsOf ts R) (startD 9 ts) := by
  rintro ts R ⟨h0, z, bs, ss, rfl, hh0, hz, hreg, hsame, hR⟩
  have hev := every_len hz
  have rest : ∀ (h : List T) (asked : List St) (x5 x6 x7 x8 : Sl T), HandOk h → (∀ s ∈ asked, s ∈ every z) → w__law_inside_told_2 (endsOf [tH h0, tBs bs, tSs (every z), tK ss] R) [.io (tH h), .own (tBs bs), .own (tSs (every z)), .io (tK ss), .own (nSs asked), x5, x6, x7, x8] := by
    intro h asked x5 x6 x7 x8 hh ha
    unfold w__law_inside_told_2
    trivial
    unfold w__law_inside_told_3
    trivial
    refine forGo_pre encS asked (fun pre en => ∃ x5 x6 x7 x8 : Sl T, (x5 = .own (nBs bs) ∨ x5 = .own (tBs bs)) ∧ en = [.io (tH h), .own (tBs bs), .own (tSs (every z)), .io (tK ss), .out true, x5, x6, x7, x8]) ⟨_, _, _, _, .inl rfl, rfl⟩ ?_ ?_
    · rintro pre s post en K hx hK ⟨x5, x6, x7, x8, hx5, rfl⟩
      have hse := ha s (by rw [hx]; simp)
      have hsl := (mem_every hse).1
      have hbl : ∀ b ∈ bs, b.length = s.length := fun b hb => by rw [(hreg.1 b hb).len, hsl]
      have hin : decide (keyS s ∈ ss.map keyS) = inAny bs s := by
        rw [Bool.eq_iff_iff, decide_eq_true_eq, mem_mapk fun _ _ => keyS_inj, hsame s]
      rcases hx5 with rfl | rfl
      · trivial
        refine ⟨hbl, ?_⟩
        trivial
        refine ⟨_, keyS s, rfl, keyS_ok s, ?_⟩
        trivial
        rw [if_neg Bool.false_ne_true, hin]
        have : PyData.eqv (.bool (inAny bs s)) (.bool (inAny bs s)) = true := by cases inAny bs s <;> rfl
        rw [this]
        trivial
        exact hK _ ⟨_, _, _, _, .inr rfl, rfl⟩
      · trivial
        refine ⟨hbl, ?_⟩
        trivial
        refine ⟨_, keyS s, rfl, keyS_ok s, ?_⟩
        trivial
        rw [if_neg Bool.false_ne_true, hin]
        have : PyData.eqv (.bool (inAny bs s)) (.bool (inAny bs s)) = true := by cases inAny bs s <;> rfl
        rw [this]
        trivial
        exact hK _ ⟨_, _, _, _, .inr rfl, rfl⟩
    · rintro en ⟨x5, x6, x7, x8, hx5, rfl⟩
      rcases hx5 with rfl | rfl
      · trivial
        unfold w__law_inside_told_4
        trivial
        refine ⟨shaped_Bs bs, shaped_Bs bs, ?_⟩
        rw [eqv_Bs]
        trivial
        exact hR h hh
      · trivial
        unfold w__law_inside_told_4
        trivial
        refine ⟨shaped_Bs bs, shaped_Bs bs, ?_⟩
        rw [eqv_Bs]
        trivial
        exact hR h hh
  trivial
  unfold w__law_inside_told_1
  trivial
  split
  · trivial
    have e40 : rngD 0 (Int.toNat 40) = (List.range 40).map fun i : Nat => PyData.int ((i : Nat) : Int) := rngD_nat 40
    rw [e40]
    refine ⟨by decide, by decide, ?_⟩
    show lcGo _ _ _ _ _
    refine lcGo_pre (fun i : Nat => PyData.int ((i : Nat) : Int)) (List.range 40) (fun pre acc en => ∃ (h : List T) (as : List St) (x8 : Sl T), HandOk h ∧ (∀ s ∈ as, s ∈ every z) ∧ as.length ≤ pre.length ∧ acc = (as.map encS).map T.dat ∧ en = [.io (tH h), .own (tBs bs), .own (tSs (every z)), .io (tK ss), .own (nSs (every z)), .un, .un, .un, x8]) ?_ ?_ ?_
    · exact ⟨h0, [], _, hh0, (fun _ h => nomatch h), Nat.le_refl _, rfl, rfl⟩
    · rintro pre i post acc en K hx hK ⟨h, as, x8, hh, has, hal, rfl, rfl⟩
      have hplen := congrArg List.length hx
      rw [List.length_append, List.length_cons, List.length_range] at hplen
      trivial
      rw [List.length_map, List.length_map]
      refine ⟨hh, by omega, by omega, fun c h2 hh2 g3 g4 => ?_⟩
      trivial
      obtain ⟨x, hx', hx1, hx2, hx3⟩ := ix_at (xs := every z) (f := fun s => T.dat (encS s)) g3 (by rw [List.length_map]; exact g4)
      refine ⟨_, _, by rw [md_map]; exact hx2, by rw [md_map]; exact hx3, ?_⟩
      trivial
      refine ⟨lt_sz (by rw [List.length_map, List.length_map]; omega), ?_⟩
      exact hK _ _ ⟨h2, as ++ [x], _, hh2, fun s hs => by
        rcases List.mem_append.mp hs with q | q
        · exact has s q
        · rw [List.mem_singleton.mp q]; exact hx', by rw [List.length_append, List.length_append]; exact Nat.add_le_add_right hal _, by simp, rfl⟩
    · rintro acc en ⟨h, as, x8, hh, has, hal, rfl, rfl⟩
      trivial
      exact rest h as _ _ _ _ hh has
  · trivial
    exact rest h0 (every z) _ _ _ _ hh0 fun s hs => hs
end R09

set_option maxRecDepth 100000
set_option maxHeartbeats 0
namespace R09
open PySem PySem.Spec PyProof.Rows L2 DL

local macro_rules | `(tactic| trivial) => `(tactic| ((conv => whnf); first | (refine ⟨_, _, rfl, rfl, ?_⟩; trivial) | (refine ⟨rfl, rfl, ?_⟩; trivial) | (refine ⟨_, rfl, ?_⟩; trivial) | (refine ⟨_, _, rfl, ?_⟩; trivial) | (refine ⟨Nat.zero_le _, ?_⟩; trivial) | (rw [lst_data]; trivial) | (rw [lst_sqK]; trivial) | (rw [lst_sqD]; trivial) | (rw [lst_lsD]; trivial) | (rw [lst_lsK]; trivial) | skip))
theorem holds_filter {z : List Int} {bs : List Bx} : SameSet bs ((every z).filter fun s => inAny bs s) ↔ ∀ s, inAny bs s = true → s ∈ every z := by
  constructor
  · intro h s hs
    exact (List.mem_filter.mp ((h s).mp hs)).1
  · intro h s
    rw [List.mem_filter]
    exact ⟨fun e => ⟨h s e, e⟩, fun e => e.2⟩
theorem seen_outer {z : List Int} {ss oo : List St} (h : ∀ s ∈ ss, s ∈ every z) (ho : ∀ s, s ∈ oo ↔ s ∈ every z ∧ s ∉ ss) : seenF z oo = seenF z ss := by
  have mset : ∀ s ∈ every z, ∀ (k : Nat) v, k < z.length → v ∈ rngI (z.getD k 0) → s.set k v ∈ every z := by
    have key : ∀ (z : List Int) (s : St), s ∈ every z → ∀ (k : Nat) v, k < z.length → v ∈ rngI (z.getD k 0) → s.set k v ∈ every z := by
      intro z
      induction z with
      | nil => intro s _ k v hk; simp at hk
      | cons a z ih =>
        intro s hs k v hk hv
        obtain ⟨x, hx, hs⟩ := List.mem_flatMap.mp (show s ∈ (rngI a).flatMap fun v => (every z).map (v :: ·) from hs)
        obtain ⟨t, ht, rfl⟩ := List.mem_map.mp hs
        show _ ∈ (rngI a).flatMap fun v => (every z).map (v :: ·)
        cases k with
        | zero => exact List.mem_flatMap.mpr ⟨v, hv, List.mem_map.mpr ⟨t, ht, rfl⟩⟩
        | succ k => exact List.mem_flatMap.mpr ⟨x, hx, List.mem_map.mpr ⟨t.set k v, ih t ht k v (by simpa using hk) hv, rfl⟩⟩
    exact key z
  have one : ∀ (a b : List St), (∀ s ∈ a, s ∈ every z) → (∀ s, s ∈ b ↔ s ∈ every z ∧ s ∉ a) → ∀ k, k < z.length → difF z a k = true → difF z b k = true := by
    intro a b ha hb k hk h
    unfold difF at h ⊢
    obtain ⟨s, hs, h⟩ := List.any_eq_true.mp h
    obtain ⟨v, hv, h⟩ := List.any_eq_true.mp h
    have hn : s.set k v ∉ a := by simpa using h
    have hse := ha s hs
    have hks : k < s.length := by rw [(mem_every hse).1]; exact hk
    have hu : s.getD k 0 ∈ rngI (z.getD k 0) := mem_rngI.mpr ((mem_every hse).2 k _ (by rw [List.getD_eq_getElem?_getD, List.getElem?_eq_getElem hks]; rfl))
    have hback : (s.set k v).set k (s.getD k 0) = s := by
      rw [List.set_set]
      refine List.ext_getElem? fun i => ?_
      by_cases e : i = k
      · subst e
        rw [List.getElem?_set_self hks, List.getD_eq_getElem?_getD, List.getElem?_eq_getElem hks]; rfl
      · rw [List.getElem?_set_ne (Ne.symm e)]
    refine List.any_eq_true.mpr ⟨s.set k v, (hb _).mpr ⟨mset s hse k v hk hv, hn⟩, List.any_eq_true.mpr ⟨s.getD k 0, hu, ?_⟩⟩
    rw [hback]
    have : s ∉ b := fun m => ((hb s).mp m).2 hs
    simpa using this
  unfold seenF
  refine List.filter_congr fun k hk => ?_
  have hk := List.mem_range.mp hk
  have ho' : ∀ s ∈ oo, s ∈ every z := fun s hs => ((ho s).mp hs).1
  have back : ∀ s, s ∈ ss ↔ s ∈ every z ∧ s ∉ oo := fun s => by
    rw [ho s]
    constructor
    · intro hs; exact ⟨h s hs, fun q => q.2 hs⟩
    · rintro ⟨q1, q2⟩
      exact Classical.byContradiction fun q => q2 ⟨q1, q⟩
  rw [Bool.eq_iff_iff]
  exact ⟨one oo ss ho' back k hk, one ss oo h ho k hk⟩
abbrev lE (a8 : Sl T) (ns : List Int) (h : List T) (z : List Int) (bs : List Bx) (ss : List St) (a9 a10 a11 a12 x13 : Sl T) : En := [.own (.scr ns), .own (tH h), .own (tS z), .own (tBs bs), .own (tSs (every z)), .own (tSs ss), .own (tK ss), .own (tBs (lb z.length ss)), a8, a9, a10, a11, a12, x13]
theorem p_law : ∀ ts R, S_law ts R → w_law 9 (endsOf ts R) (startD 14 ts) := by
  rintro ts R ⟨ns, rfl, hl, hR⟩
  trivial
  refine ⟨hl, fun h0 hh0 => ?_⟩
  trivial
  unfold w_law_1
  trivial
  refine ⟨hh0, fun z h1 hz hh1 => ?_⟩
  trivial
  unfold w_law_2
  trivial
  refine ⟨hh1, hz, fun bs h2 hh2 hreg => ?_⟩
  trivial
  unfold w_law_3
  trivial
  have hev := every_len hz
  refine ⟨fun s hs => ⟨by have := hz.rng s hs; omega, (hz.rng s hs).2⟩, hz.len, hz.prod, fun s hs => (hz.rng s hs).1, ?_⟩
  trivial
  unfold w_law_4
  trivial
  refine lcGo_pre encS (every z) (fun pre acc en => acc = ((pre.filter fun s => inAny bs s).map encS).map T.dat ∧ ∃ x13 : Sl T, en = [.own (.scr ns), .own (tH h2), .own (tS z), .own (tBs bs), .own (tSs (every z)), .un, .un, .un, .un, .un, .un, .un, .un, x13]) ⟨rfl, _, rfl⟩ ?_ ?_
  · rintro pre s post acc en K hx hK ⟨rfl, x13, rfl⟩
    have hplen := congrArg List.length hx
    rw [List.length_append, List.length_cons] at hplen
    have hfl := List.length_filter_le (fun s => inAny bs s) pre
    have hsl := (mem_every (show s ∈ every z by rw [hx]; simp)).1
    have hbl : ∀ b ∈ bs, b.length = s.length := fun b hb => by rw [(hreg.1 b hb).len, hsl]
    have hz8 := hz.len
    trivial
    refine ⟨hbl, by omega, ?_⟩
    trivial
    split
    · rename_i h
      trivial
      refine ⟨lt_sz (by rw [List.length_map, List.length_map]; omega), ?_⟩
      exact hK _ _ ⟨by rw [List.filter_append, List.filter_cons, if_pos h]; simp, _, rfl⟩
    · rename_i h
      exact hK _ _ ⟨by rw [List.filter_append, List.filter_cons, if_neg (by rw [h]; simp)]; simp, _, rfl⟩
  · rintro acc en ⟨rfl, x13, rfl⟩
    have hsame : SameSet bs ((every z).filter fun s => inAny bs s) := holds_filter.mpr fun s hs => by
      obtain ⟨b, hb, e⟩ := inAny_iff.mp hs
      exact (hreg.1 b hb).every e
    have hss : SS ((every z).filter fun s => inAny bs s) := (every_SS z).filter _
    have hse : ∀ s ∈ (every z).filter fun s => inAny bs s, s ∈ every z := fun s hs => (List.mem_filter.mp hs).1
    have hsl : ((every z).filter fun s => inAny bs s).length ≤ 1024 := Nat.le_trans (List.length_filter_le _ _) hev.2
    generalize (every z).filter (fun s => inAny bs s) = ss at hsame hss hse hsl ⊢
    have hal : AllLen z.length ss := fun s hs => (mem_every (hse s hs)).1
    have hz8 := hz.len
    have hdue := lb_same hss hal
    have hdreg : RegOk z (lb z.length ss) := lb_reg hse (by omega)
    have hdl : (lb z.length ss).length ≤ 1024 := Nat.le_trans (lb_length _ _) hsl
    have hsd : ∀ rows : List St, (∀ s, s ∈ rows ↔ s ∈ ss) → sd rows = ss := fun rows h => (sd_SS _).unique hss fun s => by rw [mem_sd, h]
    have hzr : ∀ s ∈ z, 0 ≤ s ∧ s ≤ 16 := fun s hs => ⟨by have := hz.rng s hs; omega, (hz.rng s hs).2⟩
    trivial
    unfold w_law_5
    trivial
    refine ⟨hss.nodup, by omega, ?_⟩
    trivial
    unfold w_law_6
    trivial
    refine ⟨z.length, ss, by omega, by rw [List.length_map, List.length_map], hss, hal, by omega, ?_⟩
    trivial
    unfold w_law_7
    trivial
    refine ⟨hss.nodup, by omega, hzr, hal, hz8, ?_⟩
    trivial
    unfold w_law_8
    trivial
    refine ⟨z, bs, ss, rfl, hz, hreg, hss, hsame, ?_⟩
    trivial
    refine ⟨z, lb z.length ss, ss, rfl, hz, hdreg, hss, hdue, ?_⟩
    trivial
    show w_law_9 9 _ (lE (.own (nNs (seenF z ss))) ns h2 z bs ss .un .un .un .un _)
    unfold w_law_9
    trivial
    refine ⟨hh2, by omega, fun rows h3 hh3 hrows hrl => ?_⟩
    trivial
    refine ⟨z.length, z, rows, by rw [hsd rows hrows], hz8, fun s hs => hal s ((hrows s).mp hs), hrl, ?_⟩
    trivial
    show w_law_10 9 _ (lE (.own (nNs (seenF z ss))) ns h3 z bs ss .un .un .un .un _)
    unfold w_law_10
    trivial
    refine ⟨z, bs, ss, rfl, hz, hreg, hss, hsame, ?_⟩
    trivial
    refine ⟨z, lb z.length ss, ss, rfl, hz, hdreg, hss, hdue, ?_⟩
    trivial
    show w_law_11 9 _ (lE (.own (.dat (.list ((seenF z ss).map fun i : Nat => PyData.int ((i : Nat) : Int))))) ns h3 z bs ss .un .un .un .un _)
    unfold w_law_11
    trivial
    refine ⟨h3, z, bs, ss, rfl, hh3, hz, hreg, hsame, fun h4 hh4 => ?_⟩
    trivial
    refine ⟨h4, z, lb z.length ss, ss, rfl, hh4, hz, hdreg, hdue, fun h5 hh5 => ?_⟩
    trivial
    show w_law_12 9 _ (lE (.own (.dat (.list ((seenF z ss).map fun i : Nat => PyData.int ((i : Nat) : Int))))) ns h5 z bs ss .un .un .un .un _)
    unfold w_law_12
    trivial
    refine ⟨h5, z, ss, rfl, hh5, hz, fun near h6 hh6 hns hnin => ?_⟩
    trivial
    show w_law_13 9 _ (lE (.own (.dat (.list ((seenF z ss).map fun i : Nat => PyData.int ((i : Nat) : Int))))) ns h6 z bs ss (.own (nSs near)) .un .un .un _)
    unfold w_law_13
    trivial
    refine lcGo_pre encS (every z) (fun pre acc en => acc = ((pre.filter fun s => !decide (s ∈ ss)).map encS).map T.dat ∧ ∃ x13 : Sl T, en = [.own (.scr ns), .own (tH h6), .own (tS z), .own (tBs bs), .own (tSs (every z)), .own (tSs ss), .own (tK ss), .own (tBs (lb z.length ss)), .own (.dat (.list ((seenF z ss).map fun i : Nat => PyData.int ((i : Nat) : Int)))), .own (nSs near), .un, .un, .un, x13]) ⟨rfl, _, rfl⟩ ?_ ?_
    · rintro pre s post acc en K hx hK ⟨rfl, x13, rfl⟩
      have hplen := congrArg List.length hx
      rw [List.length_append, List.length_cons] at hplen
      have hfl := List.length_filter_le (fun s => !decide (s ∈ ss)) pre
      have hin : decide (keyS s ∈ ss.map keyS) = decide (s ∈ ss) := decide_eq_decide.mpr (mem_mapk fun _ _ => keyS_inj)
      trivial
      refine ⟨encS s, keyS s, rfl, keyS_ok s, ?_⟩
      trivial
      rw [if_pos rfl, hin]
      split
      · rename_i h
        trivial
        refine ⟨lt_sz (by rw [List.length_map, List.length_map]; omega), ?_⟩
        exact hK _ _ ⟨by rw [List.filter_append, List.filter_cons, if_pos h]; simp, _, rfl⟩
      · rename_i h
        exact hK _ _ ⟨by rw [List.filter_append, List.filter_cons, if_neg (by rw [h]; simp)]; simp, _, rfl⟩
    · rintro acc en ⟨rfl, x13, rfl⟩
      have hoS : SS ((every z).filter fun s => !decide (s ∈ ss)) := (every_SS z).filter _
      have hoin : ∀ s, s ∈ ((every z).filter fun s => !decide (s ∈ ss)) ↔ s ∈ every z ∧ s ∉ ss := fun s => by
        rw [List.mem_filter]
        simp
      generalize (every z).filter (fun s => !decide (s ∈ ss)) = outer at hoS hoin ⊢
      have hoe : ∀ s ∈ outer, s ∈ every z := fun s hs => ((hoin s).mp hs).1
      have hol : outer.length ≤ 1024 := Nat.le_trans (nodup_sub_len hoS.nodup hoe) hev.2
      have hnl : near.length ≤ 1024 := Nat.le_trans (nodup_sub_len hns.nodup hnin) hev.2
      have hna : AllLen z.length near := fun s hs => (mem_every (hnin s hs)).1
      have hoa : AllLen z.length outer := fun s hs => (mem_every (hoe s hs)).1
      trivial
      show w_law_14 9 _ (lE (.own (.dat (.list ((seenF z ss).map fun i : Nat => PyData.int ((i : Nat) : Int))))) ns h6 z bs ss (.own (nSs near)) (.own (nSs outer)) .un .un _)
      unfold w_law_14
      trivial
      refine ⟨z.length, near, by omega, by rw [List.length_map, List.length_map], hns, hna, by omega, ?_⟩
      trivial
      show w_law_15 9 _ (lE (.own (.dat (.list ((seenF z ss).map fun i : Nat => PyData.int ((i : Nat) : Int))))) ns h6 z bs ss (.own (tSs near)) (.own (nSs outer)) (.own (nBs (lb z.length near))) .un _)
      unfold w_law_15
      trivial
      refine ⟨z.length, outer, by omega, by rw [List.length_map, List.length_map], hoS, hoa, by omega, ?_⟩
      trivial
      show w_law_16 9 _ (lE (.own (.dat (.list ((seenF z ss).map fun i : Nat => PyData.int ((i : Nat) : Int))))) ns h6 z bs ss (.own (tSs near)) (.own (tSs outer)) (.own (nBs (lb z.length near))) (.own (nBs (lb z.length outer))) _)
      unfold w_law_16
      trivial
      refine ⟨hh6, by omega, fun rows2 h7 hh7 hrows2 hrl2 => ?_⟩
      trivial
      have hsd2 : sd rows2 = near := (sd_SS _).unique hns fun s => by rw [mem_sd, hrows2]
      refine ⟨z.length, z, rows2, by rw [hsd2], hz8, fun s hs => hna s ((hrows2 s).mp hs), hrl2, ?_⟩
      trivial
      refine ⟨z, lb z.length near, near, rfl, hz, lb_reg hnin (by omega), hns, lb_same hns hna, ?_⟩
      trivial
      show w_law_17 9 _ (lE (.own (.dat (.list ((seenF z ss).map fun i : Nat => PyData.int ((i : Nat) : Int))))) ns h7 z bs ss (.own (tSs near)) (.own (tSs outer)) (.own (tBs (lb z.length near))) (.own (nBs (lb z.length outer))) _)
      unfold w_law_17
      trivial
      refine ⟨hns.nodup, by omega, hzr, hna, hz8, ?_⟩
      trivial
      refine ⟨z, lb z.length near, near, rfl, hz, lb_reg hnin (by omega), hns, lb_same hns hna, ?_⟩
      trivial
      show w_law_18 9 _ (lE (.own (.dat (.list ((seenF z ss).map fun i : Nat => PyData.int ((i : Nat) : Int))))) ns h7 z bs ss (.own (tSs near)) (.own (tSs outer)) (.own (tBs (lb z.length near))) (.own (nBs (lb z.length outer))) _)
      unfold w_law_18
      trivial
      refine ⟨z.length, z, outer, by rw [sd_SSeq hoS], hz8, hoa, by omega, ?_⟩
      trivial
      refine ⟨z, lb z.length outer, outer, by rw [seen_outer hse hoin], hz, lb_reg hoe (by omega), hoS, lb_same hoS hoa, ?_⟩
      trivial
      show w_law_19 9 _ (lE (.own (.dat (.list ((seenF z ss).map fun i : Nat => PyData.int ((i : Nat) : Int))))) ns h7 z bs ss (.own (tSs near)) (.own (tSs outer)) (.own (tBs (lb z.length near))) (.own (tBs (lb z.length outer))) _)
      unfold w_law_19
      trivial
      refine ⟨z.length, z, ss, by rw [sd_SSeq hss], hz8, hal, by omega, ?_⟩
      trivial
      show w_law_20 9 _ (lE (.own (.dat (.list ((seenF z ss).map fun i : Nat => PyData.int ((i : Nat) : Int))))) ns h7 z bs ss (.own (tSs near)) (.own (tSs outer)) (.own (tBs (lb z.length near))) (.own (tBs (lb z.length outer))) _)
      unfold w_law_20
      trivial
      refine ⟨0, [], [], by rw [show lb 0 (sd []) = [] from List.eq_nil_of_length_eq_zero (Nat.le_zero.mp (Nat.le_trans (lb_length 0 _) (sd_length [])))]; rfl, by decide, (fun _ h => nomatch h), by decide, ?_⟩
      trivial
      refine ⟨le_sz (n := 1) (by decide), ?_⟩
      trivial
      refine ⟨hh7, by decide, by decide, fun c h8 hh8 g3 g4 => ?_⟩
      trivial
      refine ⟨by omega, by omega, le_sz (by show 1 * _ ≤ _; omega), ?_⟩
      have hk : (1 + c).toNat = 1 ∨ (1 + c).toNat = 2 ∨ (1 + c).toNat = 3 := by omega
      have hlast : ∀ k : Nat, 1 ≤ k → sd (List.replicate k ([] : St)) = [[]] := fun k hk => by
        refine (sd_SS _).unique (List.pairwise_singleton _ _) fun s => ?_
        rw [mem_sd, List.mem_replicate, List.mem_singleton]
        exact ⟨fun h => h.2, fun h => ⟨by omega, h⟩⟩
      have hrep : (List.replicate (1 + c).toNat [PyData.tuple []]).flatten = (List.replicate (1 + c).toNat ([] : St)).map encS := by
        rcases hk with e | e | e <;> rw [e] <;> rfl
      rw [hrep]
      trivial
      refine ⟨le_sz (n := 1) (by decide), ?_⟩
      trivial
      refine ⟨0, [], List.replicate (1 + c).toNat [], by rw [hlast _ (by omega)]; rfl, by decide, fun s hs => by rw [(List.mem_replicate.mp hs).2]; rfl, by rw [List.length_replicate]; omega, ?_⟩
      trivial
      exact hR
end R09

set_option maxRecDepth 100000
set_option maxHeartbeats 0
namespace R09
open PySem PySem.Spec PyProof.Rows L2 DL
theorem room_u0 {k : Nat} {A : Around} (h : Room k A) : A.units + 64 < cLine := by have := h.un; omega
theorem room_u1 {k : Nat} {A : Around} (h : Room k A) : A.units + 65 < cLine := by have := h.un; omega
section
set_option maxHeartbeats 0
variable {P : Program} {w : World} {K : PySem.W.Frag} {mg : Str → Option Value} {base : Heap} {k m : Nat}
theorem t_boxes_of (m_tuple : mg "tuple" = none) (h__joined : Has P w K mg base k "_joined" (S__joined m)) {f : Addr} {cdv : Value} {A : Around} {outer : List Env} {s : Shared} {H : Hp} {E : XK} (hr : Room k (A.deeper (envOfC "boxes_of" (defScope s_boxes_of) s.heap.objs.size f cdv))) :
  DSs (cxOf CX0 P w K mg base N_boxes_of "boxes_of" (defScope s_boxes_of) f cdv A outer s H E).nox (defBody s_boxes_of) (w_boxes_of m) := by
  have hN : N_boxes_of.Nodup := sc_boxes_of.nd
  have hu0 := room_u0 hr
  have hu : _ := hu0
  have hu1 := room_u1 hr
  delta w_boxes_of
  exact dss_cons (ds_ret (de_call h__joined hr (by rfl) (dc_val (de_f ((lc1 (g := false) [("state", 2)] (f := false) (fun z => nomatch z) rfl hN (di_fz (j := 1)) (fun _ _ _ _ _ => dg_name (i := 2) hN) (fun _ _ _ _ _ => dtg_nil) (fun _ _ _ _ _ => deg_f ((u_tup rfl m_tuple (by rfl)).toE ((lc1 (g := true) [("value", 3)] (f := true) (fun _ => rfl) rfl hN (di_h (du_var (i := 2))) (fun _ _ _ _ _ => dg_name (i := 3) hN) (fun _ _ _ _ _ => dtg_nil) (fun _ _ _ _ _ => deg_n (dn_tup (dau_cons (du_var (i := 3)) (dau_nil)))) (by kernel_rfl)).de))) (by kernel_rfl)).de)) (dc_nil))))
    (dss_nil)
end
section
set_option maxHeartbeats 0
variable {P : Program} {w : World} {K : PySem.W.Frag} {mg : Str → Option Value} {base : Heap} {k : Nat}
theorem t_states_of (m_sorted : mg "sorted" = none) {f : Addr} {cdv : Value} {A : Around} {outer : List Env} {s : Shared} {H : Hp} {E : XK} (hr : Room k (A.deeper (envOfC "states_of" (defScope s_states_of) s.heap.objs.size f cdv))) :
  DSs (cxOf CX0 P w K mg base N_states_of "states_of" (defScope s_states_of) f cdv A outer s H E).nox (defBody s_states_of) w_states_of := by
  have hN : N_states_of.Nodup := sc_states_of.nd
  have hu0 := room_u0 hr
  have hu : _ := hu0
  have hu1 := room_u1 hr
  delta w_states_of w_states_of_1 w_states_of_2 w_states_of_j1
  exact dss_cons (ds_asg (i := 1) hN ((dn_dic true).toE))
    (dss_cons (ds_forN (j := 0) PassesOwn.never rfl (dg_name (i := 2) hN) (dss_cons (ds_asg (i := 3) hN (de_lst (da_cons ((dn_tup (dau_nil)).toE) (da_nil))))
    (dss_cons (ds_forN (j := 2) PassesOwn.never rfl (dg_name (i := 4) hN) (dss_cons (ds_lc (i := 3) (lc2 (g := true) [("row", 5), ("value", 6)] [6] (f := true) (fun _ => rfl) rfl hN (di_h (du_var (i := 3))) (fun _ _ _ _ _ => dg_name (i := 5) hN) (fun _ _ _ _ _ => dtg_nil) (fun _ _ _ _ _ => di_u (du_var (i := 4))) (fun _ _ _ _ _ => dg_name (i := 6) hN) (fun _ _ _ _ _ => dtg_nil) (fun _ _ _ _ _ => deg_n (b_plus.toN (du_var (i := 5)) ((dn_tup (dau_cons (du_var (i := 6)) (dau_nil))).toU))) (by kernel_rfl)))
    (dss_nil)))
    (dss_cons (ds_forN (j := 3) PassesOwn.never rfl (dg_name (i := 5) hN) (dss_cons (ds_sub hu0 (de_u (du_bl)) (dp_var (i := 1)) (du_var (i := 5)))
    (dss_nil)))
    (dss_nil)))))
    (dss_cons (ds_ret (((u_sort rfl hu0 m_sorted (by rfl)).toN (du_var (i := 1))).toE))
    (dss_nil)))
end
section
set_option maxHeartbeats 0
variable {P : Program} {w : World} {K : PySem.W.Frag} {mg : Str → Option Value} {base : Heap} {k : Nat}
theorem t_inside (h__in_box : Has P w K mg base k "_in_box" S__in_box) {f : Addr} {cdv : Value} {A : Around} {outer : List Env} {s : Shared} {H : Hp} {E : XK} (hr : Room k (A.deeper (envOfC "inside" (defScope s_inside) s.heap.objs.size f cdv))) :
  DSs (cxOf CX0 P w K mg base N_inside "inside" (defScope s_inside) f cdv A outer s H E).nox (defBody s_inside) w_inside := by
  have hN : N_inside.Nodup := sc_inside.nd
  have hu0 := room_u0 hr
  have hu : _ := hu0
  have hu1 := room_u1 hr
  delta w_inside w_inside_1
  exact dss_cons (ds_forN (j := 0) PassesOwn.never rfl (dg_name (i := 2) hN) (dss_cons (ds_if (dt_v (de_call h__in_box hr (by rfl) (dc_nameF (i := 2) (dc_nameF (i := 1) (dc_nil))))) (dss_cons (ds_ret (de_u (du_bl)))
    (dss_nil)) (dss_nil))
    (dss_nil)))
    (dss_cons (ds_ret (de_u (du_bl)))
    (dss_nil))
end
section
set_option maxHeartbeats 0
variable {P : Program} {w : World} {K : PySem.W.Frag} {mg : Str → Option Value} {base : Heap} {k : Nat}
theorem t_seen_by (m_enumerate : mg "enumerate" = none) (h__is_seen : Has P w K mg base k "_is_seen" S__is_seen) {f : Addr} {cdv : Value} {A : Around} {outer : List Env} {s : Shared} {H : Hp} {E : XK} (hr : Room k (A.deeper (envOfC "seen_by" (defScope s_seen_by) s.heap.objs.size f cdv))) :
  DSs (cxOf CX0 P w K mg base N_seen_by "seen_by" (defScope s_seen_by) f cdv A outer s H E).nox (defBody s_seen_by) w_seen_by := by
  have hN : N_seen_by.Nodup := sc_seen_by.nd
  have hu0 := room_u0 hr
  have hu : _ := hu0
  have hu1 := room_u1 hr
  delta w_seen_by w_seen_by_1 w_seen_by_2
  exact dss_cons (ds_asg (i := 2) hN (de_lst (da_nil)))
    (dss_cons (ds_for (g := false) PassesOwn.never rfl (di_enum m_enumerate (by rfl) (du_var (i := 0))) (dg_tup (n := 2) rfl (dgs_cons (dg_name (i := 3) hN) (dgs_cons (dg_name (i := 4) hN) (dgs_nil)))) (dss_cons (ds_if (dt_v (de_call h__is_seen hr (by rfl) (dc_nameF (i := 4) (dc_nameF (i := 1) (dc_nameF (i := 3) (dc_nil)))))) (dss_cons (ds_appN (i := 2) (de_name (i := 3)))
    (dss_nil)) (dss_nil))
    (dss_nil)))
    (dss_cons (ds_ret (de_name (i := 2)))
    (dss_nil)))
end
section
set_option maxHeartbeats 0
variable {P : Program} {w : World} {K : PySem.W.Frag} {mg : Str → Option Value} {base : Heap} {k : Nat}
theorem t__in_box (m_zip : mg "zip" = none) {f : Addr} {cdv : Value} {A : Around} {outer : List Env} {s : Shared} {H : Hp} {E : XK} (hr : Room k (A.deeper (envOfC "_in_box" (defScope s__in_box) s.heap.objs.size f cdv))) :
  DSs (cxOf CX0 P w K mg base N__in_box "_in_box" (defScope s__in_box) f cdv A outer s H E).nox (defBody s__in_box) w__in_box := by
  have hN : N__in_box.Nodup := sc__in_box.nd
  have hu0 := room_u0 hr
  have hu : _ := hu0
  have hu1 := room_u1 hr
  delta w__in_box w__in_box_1
  exact dss_cons (ds_for (g := false) PassesOwn.never rfl (di_zip m_zip (by rfl) (du_var (i := 0)) (du_var (i := 1))) (dg_tup (n := 2) rfl (dgs_cons (dg_name (i := 2) hN) (dgs_cons (dg_name (i := 3) hN) (dgs_nil)))) (dss_cons (ds_if ((c_notin hu1).toT (du_var (i := 3)) (du_var (i := 2))) (dss_cons (ds_ret (de_u (du_bl)))
    (dss_nil)) (dss_nil))
    (dss_nil)))
    (dss_cons (ds_ret (de_u (du_bl)))
    (dss_nil))
end
section
set_option maxHeartbeats 0
variable {P : Program} {w : World} {K : PySem.W.Frag} {mg : Str → Option Value} {base : Heap} {k m : Nat}
theorem t__joined (m_len : mg "len" = none) (m_list : mg "list" = none) (m_sorted : mg "sorted" = none) (m_tuple : mg "tuple" = none) (h__joined : Has P w K mg base k "_joined" (S__joined m)) {f : Addr} {cdv : Value} {A : Around} {outer : List Env} {s : Shared} {H : Hp} {E : XK} (hr : Room k (A.deeper (envOfC "_joined" (defScope s__joined) s.heap.objs.size f cdv))) :
  DSs (cxOf CX0 P w K mg base N__joined "_joined" (defScope s__joined) f cdv A outer s H E).nox (defBody s__joined) (w__joined m) := by
  have hN : N__joined.Nodup := sc__joined.nd
  have hu0 := room_u0 hr
  have hu : _ := hu0
  have hu1 := room_u1 hr
  delta w__joined w__joined_1 w__joined_2 w__joined_3 w__joined_4 w__joined_5 w__joined_6 w__joined_7 w__joined_j1 w__joined_j2 w__joined_j3
  exact dss_cons (ds_if ((c_eq hu).toT (((u_lenK m_len (by rfl)).toN (du_var (i := 0))).toU) (du_int)) (dss_cons (ds_ret (de_lst (da_nil)))
    (dss_nil)) (dss_nil))
    (dss_cons (ds_if ((c_eq hu).toT (((u_lenK m_len (by rfl)).toN (du_ix hu0 (du_var (i := 0)) (du_int))).toU) (du_int)) (dss_cons (ds_ret (de_lst (da_cons ((dn_tup (dau_nil)).toE) (da_nil))))
    (dss_nil)) (dss_nil))
    (dss_cons (ds_asg (i := 1) hN ((dn_dic false).toE))
    (dss_cons (ds_forN (j := 0) PassesOwn.never rfl (dg_name (i := 2) hN) (dss_cons (ds_for (g := false) PassesOwn.never rfl (di_u (du_ix hu0 (du_var (i := 2)) (du_int))) (dg_name (i := 3) hN) (dss_cons (ds_if ((c_notin hu1).toT (du_var (i := 3)) (du_var (i := 1))) (dss_cons (ds_sub hu0 ((dn_dic true).toE) (dp_var (i := 1)) (du_var (i := 3)))
    (dss_nil)) (dss_nil))
    (dss_cons (ds_sub hu0 (de_u (du_bl)) (dp_ix hu0 (dp_var (i := 1)) (du_var (i := 3))) ((dn_sl (du_var (i := 2)) (do_some (du_int)) (do_none)).toU))
    (dss_nil))))
    (dss_nil)))
    (dss_cons (ds_asg (i := 4) hN ((dn_dic true).toE))
    (dss_cons (ds_asg (i := 5) hN ((dn_dic true).toE))
    (dss_cons (ds_for (g := false) PassesOwn.never rfl (di_u (((u_sort rfl hu0 m_sorted (by rfl)).toN (du_var (i := 1))).toU)) (dg_name (i := 3) hN) (dss_cons (ds_asg (i := 6) hN (((u_tup rfl m_tuple (by rfl)).toN (du_ix hu0 (du_var (i := 1)) (du_var (i := 3)))).toE))
    (dss_cons (ds_if ((c_notin hu1).toT (du_var (i := 6)) (du_var (i := 4))) (dss_cons (ds_sub hu0 ((u_tup rfl m_tuple (by rfl)).toE (de_call h__joined hr (by rfl) (dc_val (de_f (((u_lst rfl m_list (by rfl)).toN (du_var (i := 6))).toE)) (dc_nil)))) (dp_var (i := 4)) (du_var (i := 6)))
    (dss_nil)) (dss_nil))
    (dss_cons (ds_asg (i := 7) hN (de_u (du_ix hu0 (du_var (i := 4)) (du_var (i := 6)))))
    (dss_cons (ds_if ((c_notin hu1).toT (du_var (i := 7)) (du_var (i := 5))) (dss_cons (ds_sub hu0 (de_lst (da_nil)) (dp_var (i := 5)) (du_var (i := 7)))
    (dss_nil)) (dss_nil))
    (dss_cons (ds_app (dp_ix hu0 (dp_var (i := 5)) (du_var (i := 7))) (dn_u (du_var (i := 3))))
    (dss_nil)))))))
    (dss_cons (ds_ret ((lc2 (g := true) [("rest", 7), ("box", 2)] [2] (f := true) (fun _ => rfl) rfl hN (di_h (du_var (i := 5))) (fun _ _ _ _ _ => dg_name (i := 7) hN) (fun _ _ _ _ _ => dtg_nil) (fun _ _ _ _ _ => di_u (du_var (i := 7))) (fun _ _ _ _ _ => dg_name (i := 2) hN) (fun _ _ _ _ _ => dtg_nil) (fun _ _ _ _ _ => deg_n (b_plus.toN ((dn_tup (dau_cons (((u_tup rfl m_tuple (by rfl)).toN (du_ix hu0 (du_var (i := 5)) (du_var (i := 7)))).toU) (dau_nil))).toU) (du_var (i := 2)))) (by kernel_rfl)).de))
    (dss_nil))))))))
end
section
set_option maxHeartbeats 0
variable {P : Program} {w : World} {K : PySem.W.Frag} {mg : Str → Option Value} {base : Heap} {k m : Nat}
theorem t__is_seen (m_len : mg "len" = none) (m_list : mg "list" = none) (m_range : mg "range" = none) (m_tuple : mg "tuple" = none) (h__joined : Has P w K mg base k "_joined" (S__joined m)) {f : Addr} {cdv : Value} {A : Around} {outer : List Env} {s : Shared} {H : Hp} {E : XK} (hr : Room k (A.deeper (envOfC "_is_seen" (defScope s__is_seen) s.heap.objs.size f cdv))) :
  DSs (cxOf CX0 P w K mg base N__is_seen "_is_seen" (defScope s__is_seen) f cdv A outer s H E).nox (defBody s__is_seen) (w__is_seen m) := by
  have hN : N__is_seen.Nodup := sc__is_seen.nd
  have hu0 := room_u0 hr
  have hu : _ := hu0
  have hu1 := room_u1 hr
  delta w__is_seen w__is_seen_1 w__is_seen_2 w__is_seen_3 w__is_seen_4
  exact dss_cons (ds_asg (i := 3) hN ((dn_dic true).toE))
    (dss_cons (ds_for (g := false) PassesOwn.never rfl (di_rng1 m_range (by rfl) (deg_f (de_name (i := 0)))) (dg_name (i := 4) hN) (dss_cons (ds_lc (i := 5) (lc1 (g := true) [("box", 7)] (f := true) (fun _ => rfl) rfl hN (di_h (du_var (i := 1))) (fun _ _ _ _ _ => dg_name (i := 7) hN) (fun _ _ _ _ _ => dtg_c (c_in hu1) (du_var (i := 4)) (du_ix hu0 (du_var (i := 7)) (du_var (i := 2)))) (fun _ _ _ _ _ => deg_n (b_plus.toN ((dn_sl (du_var (i := 7)) (do_none) (do_some (du_var (i := 2)))).toU) ((dn_sl (du_var (i := 7)) (do_some ((b_plus.toN (du_var (i := 2)) (du_int)).toU)) (do_none)).toU))) (by kernel_rfl)))
    (dss_cons (ds_sub hu0 (de_u (du_bl)) (dp_var (i := 3)) (((u_tup rfl m_tuple (by rfl)).toN (du_var (i := 5))).toU))
    (dss_nil))))
    (dss_cons (ds_asg (i := 6) hN ((dn_dic true).toE))
    (dss_cons (ds_forN (j := 3) PassesOwn.never rfl (dg_name (i := 5) hN) (dss_cons (ds_subN (j := 6) hu0 (de_u (du_bl)) ((u_tup rfl m_tuple (by rfl)).toE (de_call h__joined hr (by rfl) (dc_val (de_f (((u_lst rfl m_list (by rfl)).toN (du_var (i := 5))).toE)) (dc_nil)))))
    (dss_nil)))
    (dss_cons (ds_ret ((c_gt.br.toN (((u_lenK m_len (by rfl)).toN (du_var (i := 6))).toU) (du_int)).toE))
    (dss_nil)))))
end
section
set_option maxHeartbeats 0
variable {P : Program} {w : World} {K : PySem.W.Frag} {mg : Str → Option Value} {base : Heap} {k : Nat}
theorem t__law_cell (m_int : mg "int" = none) {f : Addr} {cdv : Value} {A : Around} {outer : List Env} {s : Shared} {H : Hp} {E : XK} (hr : Room k (A.deeper (envOfC "_law_cell" (defScope s__law_cell) s.heap.objs.size f cdv))) :
  DSs (cxOf CX0 P w K mg base N__law_cell "_law_cell" (defScope s__law_cell) f cdv A outer s H E).nox (defBody s__law_cell) w__law_cell := by
  have hN : N__law_cell.Nodup := sc__law_cell.nd
  have hu0 := room_u0 hr
  have hu : _ := hu0
  have hu1 := room_u1 hr
  delta w__law_cell w__law_cell_1
  exact dss_cons (ds_if (c_lt.toT (du_var (i := 0)) (du_int)) (dss_cons (ds_asg (i := 0) hN ((b_sub.toN (du_int) (du_var (i := 0))).toE))
    (dss_nil)) (dss_nil))
    (dss_cons (ds_ret ((b_mod.toN (((u_int m_int (by rfl)).toN (du_var (i := 0))).toU) ((b_pow.toN ((b_pow.toN (du_int) (du_int)).toU) (du_int)).toU)).toE))
    (dss_nil))
end
section
set_option maxHeartbeats 0
variable {P : Program} {w : World} {K : PySem.W.Frag} {mg : Str → Option Value} {base : Heap} {k : Nat}
theorem t__law_hand (h__law_cell : Has P w K mg base k "_law_cell" S__law_cell) {f : Addr} {cdv : Value} {A : Around} {outer : List Env} {s : Shared} {H : Hp} {E : XK} (hr : Room k (A.deeper (envOfC "_law_hand" (defScope s__law_hand) s.heap.objs.size f cdv))) :
  DSs (cxOf CX0 P w K mg base N__law_hand "_law_hand" (defScope s__law_hand) f cdv A outer s H E).nox (defBody s__law_hand) w__law_hand := by
  have hN : N__law_hand.Nodup := sc__law_hand.nd
  have hu0 := room_u0 hr
  have hu : _ := hu0
  have hu1 := room_u1 hr
  delta w__law_hand w__law_hand_1 w__law_hand_2
  exact dss_cons (ds_lc (i := 1) (lc1 (g := false) [("number", 2)] (f := false) (fun z => nomatch z) rfl hN (di_u ((dn_sl (du_var (i := 0)) (do_none) (do_some (du_int))).toU)) (fun _ _ _ _ _ => dg_name (i := 2) hN) (fun _ _ _ _ _ => dtg_nil) (fun _ _ _ _ _ => deg_f (de_call h__law_cell hr (by rfl) (dc_nameF (i := 2) (dc_nil)))) (by kernel_rfl)))
    (dss_cons (ds_if ((c_eq hu).toT (du_var (i := 1)) ((dn_lst (dau_nil)).toU)) (dss_cons (ds_asg (i := 1) hN (de_lst (da_cons (de_u (du_int)) (da_nil))))
    (dss_nil)) (dss_nil))
    (dss_cons (ds_frz 1 (ds_ret (de_lst (da_cons (de_name (i := 1)) (da_cons (de_u (du_int)) (da_cons (de_u (du_int)) (da_cons (de_u (du_int)) (da_cons (de_u (du_int)) (da_nil)))))))))
    (dss_nil)))
end
section
set_option maxHeartbeats 0
variable {P : Program} {w : World} {K : PySem.W.Frag} {mg : Str → Option Value} {base : Heap} {k : Nat}
theorem t__law_draw (m_int : mg "int" = none) (m_len : mg "len" = none) {f : Addr} {cdv : Value} {A : Around} {outer : List Env} {s : Shared} {H : Hp} {E : XK} (hr : Room k (A.deeper (envOfC "_law_draw" (defScope s__law_draw) s.heap.objs.size f cdv))) :
  DSs (cxOf CX0 P w K mg base N__law_draw "_law_draw" (defScope s__law_draw) f cdv A outer s H E).nox (defBody s__law_draw) w__law_draw := by
  have hN : N__law_draw.Nodup := sc__law_draw.nd
  have hu0 := room_u0 hr
  have hu : _ := hu0
  have hu1 := room_u1 hr
  delta w__law_draw w__law_draw_1 w__law_draw_2 w__law_draw_3 w__law_draw_4 w__law_draw_j1
  exact dss_cons (ds_asg (i := 2) hN (de_u (du_ix hu0 (du_var (i := 0)) (du_int))))
    (dss_cons (ds_if ((c_eq hu).toT (du_ix hu0 (du_var (i := 0)) (du_int)) (du_int)) (dss_cons (ds_asg (i := 3) hN (de_u (du_ix hu0 (du_var (i := 2)) ((b_mod.toN (((u_int m_int (by rfl)).toN (du_ix hu0 (du_var (i := 0)) (du_int))).toU) (((u_lenK m_len (by rfl)).toN (du_var (i := 2))).toU)).toU))))
    (dss_cons (ds_sub hu0 ((b_plus.toN (du_ix hu0 (du_var (i := 0)) (du_int)) (du_int)).toE) (dp_var (i := 0)) (du_int))
    (dss_cons (ds_if ((dw_and (c_le.toT (du_ix hu0 (du_var (i := 0)) (du_int)) (((u_lenK m_len (by rfl)).toN (du_var (i := 2))).toU)) (dw_and1 (c_ge.toT (du_var (i := 3)) ((b_pow.toN (du_int) (du_int)).toU)))).dt) (dss_cons (ds_sub hu0 (de_name (i := 3)) (dp_var (i := 0)) (du_int))
    (dss_cons (ds_sub hu0 (de_u (du_int)) (dp_var (i := 0)) (du_int))
    (dss_nil))) (dss_cons (ds_sub hu0 ((b_mod.toN (((u_int m_int (by rfl)).toN ((b_plus.toN ((b_plus.toN ((b_times.toN (du_ix hu0 (du_var (i := 0)) (du_int)) (du_int)).toU) ((b_mod.toN (((u_int m_int (by rfl)).toN (du_var (i := 3))).toU) (du_int)).toU)).toU) (du_ix hu0 (du_var (i := 0)) (du_int))).toU)).toU) (du_int)).toE) (dp_var (i := 0)) (du_int))
    (dss_nil)))
    (dss_nil)))) (dss_nil))
    (dss_cons (ds_if (c_gt.toT (du_ix hu0 (du_var (i := 0)) (du_int)) (du_int)) (dss_cons (ds_asg (i := 4) hN ((b_mod.toN (((u_int m_int (by rfl)).toN (du_ix hu0 (du_var (i := 0)) (du_int))).toU) (du_var (i := 1))).toE))
    (dss_cons (ds_sub hu0 ((b_fdiv.toN (du_ix hu0 (du_var (i := 0)) (du_int)) (du_var (i := 1))).toE) (dp_var (i := 0)) (du_int))
    (dss_cons (ds_sub hu0 ((b_sub.toN (du_ix hu0 (du_var (i := 0)) (du_int)) (du_int)).toE) (dp_var (i := 0)) (du_int))
    (dss_cons (ds_if ((c_eq hu).toT (du_ix hu0 (du_var (i := 0)) (du_int)) (du_int)) (dss_cons (ds_sub hu0 (de_u (du_int)) (dp_var (i := 0)) (du_int))
    (dss_nil)) (dss_nil))
    (dss_cons (ds_ret (de_name (i := 4)))
    (dss_nil)))))) (dss_nil))
    (dss_cons (ds_asg (i := 5) hN ((b_mod.toN (((u_int m_int (by rfl)).toN ((b_plus.toN ((b_times.toN (du_ix hu0 (du_var (i := 0)) (du_int)) (du_int)).toU) (du_int)).toU)).toU) (du_int)).toE))
    (dss_cons (ds_ret ((b_mod.toN (((u_int m_int (by rfl)).toN ((b_fdiv.toN (du_var (i := 5)) (du_int)).toU)).toU) (du_var (i := 1))).toE))
    (dss_nil)))))
end
section
set_option maxHeartbeats 0
variable {P : Program} {w : World} {K : PySem.W.Frag} {mg : Str → Option Value} {base : Heap} {k : Nat}
theorem t__law_rows (m_range : mg "range" = none) {f : Addr} {cdv : Value} {A : Around} {outer : List Env} {s : Shared} {H : Hp} {E : XK} (hr : Room k (A.deeper (envOfC "_law_rows" (defScope s__law_rows) s.heap.objs.size f cdv))) :
  DSs (cxOf CX0 P w K mg base N__law_rows "_law_rows" (defScope s__law_rows) f cdv A outer s H E).nox (defBody s__law_rows) w__law_rows := by
  have hN : N__law_rows.Nodup := sc__law_rows.nd
  have hu0 := room_u0 hr
  have hu : _ := hu0
  have hu1 := room_u1 hr
  delta w__law_rows w__law_rows_1 w__law_rows_2 w__law_rows_j1
  exact dss_cons (ds_asg (i := 1) hN (de_lst (da_cons ((dn_tup (dau_nil)).toE) (da_nil))))
    (dss_cons (ds_forN (j := 0) PassesOwn.never rfl (dg_name (i := 2) hN) (dss_cons (ds_asg (i := 3) hN (de_lst (da_nil)))
    (dss_cons (ds_forN (j := 1) PassesOwn.never rfl (dg_name (i := 4) hN) (dss_cons (ds_for (g := false) PassesOwn.never rfl (di_rng1 m_range (by rfl) (deg_f (de_name (i := 2)))) (dg_name (i := 5) hN) (dss_cons (ds_appN (i := 3) ((b_plus.toN (du_var (i := 4)) ((dn_tup (dau_cons (du_var (i := 5)) (dau_nil))).toU)).toE))
    (dss_nil)))
    (dss_nil)))
    (dss_cons (ds_asg (i := 1) hN (de_name (i := 3)))
    (dss_nil)))))
    (dss_cons (ds_ret (de_name (i := 1)))
    (dss_nil)))
end
section
set_option maxHeartbeats 0
variable {P : Program} {w : World} {K : PySem.W.Frag} {mg : Str → Option Value} {base : Heap} {k : Nat}
theorem t__law_sizes (m_range : mg "range" = none) (m_tuple : mg "tuple" = none) (h__law_draw : Has P w K mg base k "_law_draw" S__law_draw) {f : Addr} {cdv : Value} {A : Around} {outer : List Env} {s : Shared} {H : Hp} {E : XK} (hr : Room k (A.deeper (envOfC "_law_sizes" (defScope s__law_sizes) s.heap.objs.size f cdv))) :
  DSs (cxOf CX0 P w K mg base N__law_sizes "_law_sizes" (defScope s__law_sizes) f cdv A outer s H E).nox (defBody s__law_sizes) w__law_sizes := by
  have hN : N__law_sizes.Nodup := sc__law_sizes.nd
  have hu0 := room_u0 hr
  have hu : _ := hu0
  have hu1 := room_u1 hr
  delta w__law_sizes w__law_sizes_1 w__law_sizes_2 w__law_sizes_3 w__law_sizes_4 w__law_sizes_j1
  exact dss_cons (ds_asg (i := 1) hN ((c_eq hu).br.toEU (de_call h__law_draw hr (by rfl) (dc_name (i := 0) (dc_val (de_f (de_u (du_int))) (dc_nil)))) (du_int)))
    (dss_cons (ds_asg (i := 2) hN (de_lst (da_nil)))
    (dss_cons (ds_asg (i := 3) hN (de_u (du_int)))
    (dss_cons (ds_for (g := false) PassesOwn.never rfl (di_rng1 m_range (by rfl) (deg_f (b_plus.toE (de_u (du_int)) (de_call h__law_draw hr (by rfl) (dc_name (i := 0) (dc_val (de_f (de_if (dt_v (de_name (i := 1))) (de_u (du_int)) (de_u (du_int)))) (dc_nil))))))) (dg_name (i := 4) hN) (dss_cons (ds_asg (i := 5) hN (b_plus.toE (de_u (du_int)) (de_call h__law_draw hr (by rfl) (dc_name (i := 0) (dc_val (de_f (de_if (dt_v (de_name (i := 1))) (de_u (du_int)) (de_u (du_int)))) (dc_nil))))))
    (dss_cons (ds_if ((dw_or ((c_eq hu).toTEU (de_call h__law_draw hr (by rfl) (dc_name (i := 0) (dc_val (de_f (de_u (du_int))) (dc_nil)))) (du_int)) (dw_or1 (c_gt.toTE ((b_times.toN (du_var (i := 3)) (du_var (i := 5))).toE) (de_if (dt_v (de_name (i := 1))) (de_u (du_int)) (de_u (du_int)))))).dt) (dss_cons (ds_asg (i := 5) hN (de_u (du_int)))
    (dss_nil)) (dss_nil))
    (dss_cons (ds_asg (i := 3) hN ((b_times.toN (du_var (i := 3)) (du_var (i := 5))).toE))
    (dss_cons (ds_appN (i := 2) (de_name (i := 5)))
    (dss_nil))))))
    (dss_cons (ds_ret (((u_tup rfl m_tuple (by rfl)).toN (du_var (i := 2))).toE))
    (dss_nil)))))
end
section
set_option maxHeartbeats 0
variable {P : Program} {w : World} {K : PySem.W.Frag} {mg : Str → Option Value} {base : Heap} {k : Nat}
theorem t__law_entry (m_range : mg "range" = none) (m_tuple : mg "tuple" = none) (h__law_draw : Has P w K mg base k "_law_draw" S__law_draw) {f : Addr} {cdv : Value} {A : Around} {outer : List Env} {s : Shared} {H : Hp} {E : XK} (hr : Room k (A.deeper (envOfC "_law_entry" (defScope s__law_entry) s.heap.objs.size f cdv))) :
  DSs (cxOf CX0 P w K mg base N__law_entry "_law_entry" (defScope s__law_entry) f cdv A outer s H E).nox (defBody s__law_entry) w__law_entry := by
  have hN : N__law_entry.Nodup := sc__law_entry.nd
  have hu0 := room_u0 hr
  have hu : _ := hu0
  have hu1 := room_u1 hr
  delta w__law_entry w__law_entry_1 w__law_entry_2 w__law_entry_3 w__law_entry_4
  exact dss_cons (ds_if ((c_eq hu).toTEU (de_call h__law_draw hr (by rfl) (dc_name (i := 0) (dc_val (de_f (de_u (du_int))) (dc_nil)))) (du_int)) (dss_cons (ds_ret ((dn_tupRg rfl (by rfl) m_tuple (by rfl) m_range (du_var (i := 1))).toE))
    (dss_nil)) (dss_nil))
    (dss_cons (ds_asg (i := 2) hN (de_lst (da_nil)))
    (dss_cons (ds_for (g := false) PassesOwn.never rfl (di_rng1 m_range (by rfl) (deg_f (de_name (i := 1)))) (dg_name (i := 3) hN) (dss_cons (ds_if ((c_eq hu).toTEU (de_call h__law_draw hr (by rfl) (dc_name (i := 0) (dc_val (de_f (de_u (du_int))) (dc_nil)))) (du_int)) (dss_cons (ds_appN (i := 2) (de_name (i := 3)))
    (dss_nil)) (dss_nil))
    (dss_nil)))
    (dss_cons (ds_if ((c_eq hu).toT (du_var (i := 2)) ((dn_lst (dau_nil)).toU)) (dss_cons (ds_appN (i := 2) (de_call h__law_draw hr (by rfl) (dc_name (i := 0) (dc_nameF (i := 1) (dc_nil)))))
    (dss_nil)) (dss_nil))
    (dss_cons (ds_ret (((u_tup rfl m_tuple (by rfl)).toN (du_var (i := 2))).toE))
    (dss_nil)))))
end
section
set_option maxHeartbeats 0
variable {P : Program} {w : World} {K : PySem.W.Frag} {mg : Str → Option Value} {base : Heap} {k : Nat}
theorem t__law_region (m_range : mg "range" = none) (m_tuple : mg "tuple" = none) (h__law_draw : Has P w K mg base k "_law_draw" S__law_draw) (h__law_entry : Has P w K mg base k "_law_entry" S__law_entry) {f : Addr} {cdv : Value} {A : Around} {outer : List Env} {s : Shared} {H : Hp} {E : XK} (hr : Room k (A.deeper (envOfC "_law_region" (defScope s__law_region) s.heap.objs.size f cdv))) :
  DSs (cxOf CX0 P w K mg base N__law_region "_law_region" (defScope s__law_region) f cdv A outer s H E).nox (defBody s__law_region) w__law_region := by
  have hN : N__law_region.Nodup := sc__law_region.nd
  have hu0 := room_u0 hr
  have hu : _ := hu0
  have hu1 := room_u1 hr
  delta w__law_region w__law_region_1 w__law_region_2 w__law_region_3
  exact dss_cons (ds_asg (i := 2) hN (de_lst (da_nil)))
    (dss_cons (ds_for (g := false) PassesOwn.never rfl (di_rng1 m_range (by rfl) (deg_f (de_call h__law_draw hr (by rfl) (dc_nameL (i := 0) (dc_val (de_f (de_if (c_gt.toTEU (de_call h__law_draw hr (by rfl) (dc_name (i := 0) (dc_val (de_f (de_u (du_int))) (dc_nil)))) (du_int)) (de_u (du_int)) (de_u (du_int)))) (dc_nil)))))) (dg_name (i := 3) hN) (dss_cons (ds_if ((dw_and ((c_ne hu).toT (du_var (i := 2)) ((dn_lst (dau_nil)).toU)) (dw_and1 ((c_eq hu).toTEU (de_call h__law_draw hr (by rfl) (dc_name (i := 0) (dc_val (de_f (de_u (du_int))) (dc_nil)))) (du_int)))).dt) (dss_cons (ds_appN (i := 2) (de_u (du_ix hu0 (du_var (i := 2)) (du_int))))
    (dss_nil)) (dss_cons (ds_appN (i := 2) ((u_tup rfl m_tuple (by rfl)).toE ((lc1 (g := false) [("size", 4)] (f := false) (fun z => nomatch z) rfl hN (di_fz (j := 1)) (fun _ _ _ _ _ => dg_name (i := 4) hN) (fun _ _ _ _ _ => dtg_nil) (fun _ _ _ _ _ => deg_f (de_call h__law_entry hr (by rfl) (dc_name (i := 0) (dc_nameF (i := 4) (dc_nil))))) (by kernel_rfl)).de)))
    (dss_nil)))
    (dss_nil)))
    (dss_cons (ds_if ((c_eq hu).toTEU (de_call h__law_draw hr (by rfl) (dc_name (i := 0) (dc_val (de_f (de_u (du_int))) (dc_nil)))) (du_int)) (dss_cons (ds_appN (i := 2) ((u_tup rfl m_tuple (by rfl)).toE ((lc1 (g := true) [("size", 4)] (f := true) (fun _ => rfl) rfl hN (di_h (du_var (i := 1))) (fun _ _ _ _ _ => dg_name (i := 4) hN) (fun _ _ _ _ _ => dtg_nil) (fun _ _ _ _ _ => deg_n (dn_tupRg rfl (by rfl) m_tuple (by rfl) m_range (du_var (i := 4)))) (by kernel_rfl)).de)))
    (dss_nil)) (dss_nil))
    (dss_cons (ds_ret (de_name (i := 2)))
    (dss_nil))))
end
section
set_option maxHeartbeats 0
variable {P : Program} {w : World} {K : PySem.W.Frag} {mg : Str → Option Value} {base : Heap} {k : Nat}
theorem t__law_holds (m_len : mg "len" = none) (m_range : mg "range" = none) {f : Addr} {cdv : Value} {A : Around} {outer : List Env} {s : Shared} {H : Hp} {E : XK} (hr : Room k (A.deeper (envOfC "_law_holds" (defScope s__law_holds) s.heap.objs.size f cdv))) :
  DSs (cxOf CX0 P w K mg base N__law_holds "_law_holds" (defScope s__law_holds) f cdv A outer s H E).nox (defBody s__law_holds) w__law_holds := by
  have hN : N__law_holds.Nodup := sc__law_holds.nd
  have hu0 := room_u0 hr
  have hu : _ := hu0
  have hu1 := room_u1 hr
  delta w__law_holds w__law_holds_1
  exact dss_cons (ds_forN (j := 0) PassesOwn.never rfl (dg_name (i := 2) hN) (dss_cons (ds_lc (i := 3) (lc1 (g := true) [("k", 4)] (f := false) (fun _ => rfl) rfl hN (di_rng1 m_range (by rfl) (deg_n ((u_lenK m_len (by rfl)).toN (du_var (i := 1))))) (fun _ _ _ _ _ => dg_name (i := 4) hN) (fun _ _ _ _ _ => dtg_c (c_in hu1) (du_ix hu0 (du_var (i := 1)) (du_var (i := 4))) (du_ix hu0 (du_var (i := 2)) (du_var (i := 4)))) (fun _ _ _ _ _ => deg_u (du_var (i := 4))) (by kernel_rfl)))
    (dss_cons (ds_if ((c_eq hu).toT (((u_lenK m_len (by rfl)).toN (du_var (i := 3))).toU) (((u_lenK m_len (by rfl)).toN (du_var (i := 1))).toU)) (dss_cons (ds_ret (de_u (du_bl)))
    (dss_nil)) (dss_nil))
    (dss_nil))))
    (dss_cons (ds_ret (de_u (du_bl)))
    (dss_nil))
end
section
set_option maxHeartbeats 0
variable {P : Program} {w : World} {K : PySem.W.Frag} {mg : Str → Option Value} {base : Heap} {k m : Nat}
theorem t__law_boxes (m_len : mg "len" = none) (m_range : mg "range" = none) (m_tuple : mg "tuple" = none) (h__law_boxes : Has P w K mg base k "_law_boxes" (S__law_boxes m)) {f : Addr} {cdv : Value} {A : Around} {outer : List Env} {s : Shared} {H : Hp} {E : XK} (hr : Room k (A.deeper (envOfC "_law_boxes" (defScope s__law_boxes) s.heap.objs.size f cdv))) :
  DSs (cxOf CX0 P w K mg base N__law_boxes "_law_boxes" (defScope s__law_boxes) f cdv A outer s H E).nox (defBody s__law_boxes) (w__law_boxes m) := by
  have hN : N__law_boxes.Nodup := sc__law_boxes.nd
  have hu0 := room_u0 hr
  have hu : _ := hu0
  have hu1 := room_u1 hr
  delta w__law_boxes w__law_boxes_1 w__law_boxes_2 w__law_boxes_3 w__law_boxes_4 w__law_boxes_5 w__law_boxes_6 w__law_boxes_7 w__law_boxes_j1 w__law_boxes_j2
  exact dss_cons (ds_if ((c_eq hu).toT (du_var (i := 1)) (du_int)) (dss_cons (ds_ret (de_if ((c_ne hu).toT (du_var (i := 0)) ((dn_lst (dau_nil)).toU)) (de_lst (da_cons ((dn_tup (dau_nil)).toE) (da_nil))) (de_lst (da_nil))))
    (dss_nil)) (dss_nil))
    (dss_cons (ds_asg (i := 2) hN (de_lst (da_nil)))
    (dss_cons (ds_forN (j := 0) PassesOwn.never rfl (dg_name (i := 3) hN) (dss_cons (ds_if ((dw_or ((c_eq hu).toT (du_var (i := 2)) ((dn_lst (dau_nil)).toU)) (dw_or1 ((c_ne hu).toT (du_ix hu0 (du_ix hu0 (du_var (i := 2)) ((u_neg.toN (du_int)).toU)) (du_int)) (du_ix hu0 (du_var (i := 3)) (du_int))))).dt) (dss_cons (ds_appN (i := 2) (de_lst (da_cons (de_u (du_ix hu0 (du_var (i := 3)) (du_int))) (da_cons (de_lst (da_nil)) (da_nil)))))
    (dss_nil)) (dss_nil))
    (dss_cons (ds_app (dp_ix hu0 (dp_ix hu0 (dp_var (i := 2)) ((u_neg.toN (du_int)).toU)) (du_int)) (dn_sl (du_var (i := 3)) (do_some (du_int)) (do_none)))
    (dss_nil))))
    (dss_cons (ds_asg (i := 4) hN (de_lst (da_nil)))
    (dss_cons (ds_frz 2 (ds_forN (j := 2) PassesOwn.never rfl (dg_name (i := 5) hN) (dss_cons (ds_asg (i := 6) hN ((u_neg.toN (du_int)).toE))
    (dss_cons (ds_for (g := false) PassesOwn.never rfl (di_rng1 m_range (by rfl) (deg_f (((u_lenK m_len (by rfl)).toN (du_var (i := 4))).toE))) (dg_name (i := 7) hN) (dss_cons (ds_if ((c_eq hu).toT (du_ix hu0 (du_ix hu0 (du_var (i := 4)) (du_var (i := 7))) (du_int)) (du_ix hu0 (du_var (i := 5)) (du_int))) (dss_cons (ds_asg (i := 6) hN (de_name (i := 7)))
    (dss_nil)) (dss_nil))
    (dss_nil)))
    (dss_cons (ds_if (c_lt.toT (du_var (i := 6)) (du_int)) (dss_cons (ds_appN (i := 4) (de_lst (da_cons (de_lst (da_cons (de_u (du_ix hu0 (du_var (i := 5)) (du_int))) (da_nil))) (da_cons (de_u (du_ix hu0 (du_var (i := 5)) (du_int))) (da_nil)))))
    (dss_nil)) (dss_cons (ds_app (dp_ix hu0 (dp_ix hu0 (dp_var (i := 4)) (du_var (i := 6))) (du_int)) (dn_u (du_ix hu0 (du_var (i := 5)) (du_int))))
    (dss_nil)))
    (dss_nil))))))
    (dss_cons (ds_asg (i := 8) hN (de_lst (da_nil)))
    (dss_cons (ds_frz 4 (ds_forN (j := 4) PassesOwn.never rfl (dg_name (i := 9) hN) (dss_cons (ds_for (g := false) PassesOwn.never rfl (di_e (de_f (de_call h__law_boxes hr (by rfl) (dc_val (de_f (de_u (du_ix hu0 (du_var (i := 9)) (du_int)))) (dc_val (de_f ((b_sub.toN (du_var (i := 1)) (du_int)).toE)) (dc_nil)))))) (dg_name (i := 10) hN) (dss_cons (ds_appN (i := 8) ((b_plus.toN ((dn_tup (dau_cons (((u_tup rfl m_tuple (by rfl)).toN (du_ix hu0 (du_var (i := 9)) (du_int))).toU) (dau_nil))).toU) (du_var (i := 10))).toE))
    (dss_nil)))
    (dss_nil))))
    (dss_cons (ds_ret (de_name (i := 8)))
    (dss_nil))))))))
end
section
set_option maxHeartbeats 0
variable {P : Program} {w : World} {K : PySem.W.Frag} {mg : Str → Option Value} {base : Heap} {k : Nat}
theorem t__law_differs (m_range : mg "range" = none) {f : Addr} {cdv : Value} {A : Around} {outer : List Env} {s : Shared} {H : Hp} {E : XK} (hr : Room k (A.deeper (envOfC "_law_differs" (defScope s__law_differs) s.heap.objs.size f cdv))) :
  DSs (cxOf CX0 P w K mg base N__law_differs "_law_differs" (defScope s__law_differs) f cdv A outer s H E).nox (defBody s__law_differs) w__law_differs := by
  have hN : N__law_differs.Nodup := sc__law_differs.nd
  have hu0 := room_u0 hr
  have hu : _ := hu0
  have hu1 := room_u1 hr
  delta w__law_differs w__law_differs_1
  exact dss_cons (ds_forN (j := 2) PassesOwn.never rfl (dg_name (i := 4) hN) (dss_cons (ds_for (g := false) PassesOwn.never rfl (di_rng1 m_range (by rfl) (deg_f (de_u (du_ix hu0 (du_var (i := 0)) (du_var (i := 3)))))) (dg_name (i := 5) hN) (dss_cons (ds_if ((c_notin hu1).toT ((b_plus.toN ((b_plus.toN ((dn_sl (du_var (i := 4)) (do_none) (do_some (du_var (i := 3)))).toU) ((dn_tup (dau_cons (du_var (i := 5)) (dau_nil))).toU)).toU) ((dn_sl (du_var (i := 4)) (do_some ((b_plus.toN (du_var (i := 3)) (du_int)).toU)) (do_none)).toU)).toU) (du_var (i := 1))) (dss_cons (ds_ret (de_u (du_bl)))
    (dss_nil)) (dss_nil))
    (dss_nil)))
    (dss_nil)))
    (dss_cons (ds_ret (de_u (du_bl)))
    (dss_nil))
end
section
set_option maxHeartbeats 0
variable {P : Program} {w : World} {K : PySem.W.Frag} {mg : Str → Option Value} {base : Heap} {k : Nat}
theorem t__law_known {f : Addr} {cdv : Value} {A : Around} {outer : List Env} {s : Shared} {H : Hp} {E : XK} (hr : Room k (A.deeper (envOfC "_law_known" (defScope s__law_known) s.heap.objs.size f cdv))) :
  DSs (cxOf CX0 P w K mg base N__law_known "_law_known" (defScope s__law_known) f cdv A outer s H E).nox (defBody s__law_known) w__law_known := by
  have hN : N__law_known.Nodup := sc__law_known.nd
  have hu0 := room_u0 hr
  have hu : _ := hu0
  have hu1 := room_u1 hr
  delta w__law_known w__law_known_1 w__law_known_2
  exact dss_cons (ds_asg (i := 1) hN ((dn_dic true).toE))
    (dss_cons (ds_forN (j := 0) PassesOwn.never rfl (dg_name (i := 2) hN) (dss_cons (ds_sub hu0 (de_u (du_bl)) (dp_var (i := 1)) (du_var (i := 2)))
    (dss_nil)))
    (dss_cons (ds_ret (de_name (i := 1)))
    (dss_nil)))
end
section
set_option maxHeartbeats 0
variable {P : Program} {w : World} {K : PySem.W.Frag} {mg : Str → Option Value} {base : Heap} {k : Nat}
theorem t__law_seen (m_len : mg "len" = none) (m_range : mg "range" = none) (h__law_differs : Has P w K mg base k "_law_differs" S__law_differs) (h__law_known : Has P w K mg base k "_law_known" S__law_known) {f : Addr} {cdv : Value} {A : Around} {outer : List Env} {s : Shared} {H : Hp} {E : XK} (hr : Room k (A.deeper (envOfC "_law_seen" (defScope s__law_seen) s.heap.objs.size f cdv))) :
  DSs (cxOf CX0 P w K mg base N__law_seen "_law_seen" (defScope s__law_seen) f cdv A outer s H E).nox (defBody s__law_seen) w__law_seen := by
  have hN : N__law_seen.Nodup := sc__law_seen.nd
  have hu0 := room_u0 hr
  have hu : _ := hu0
  have hu1 := room_u1 hr
  delta w__law_seen w__law_seen_1
  exact dss_cons (ds_asg (i := 2) hN (de_call h__law_known hr (by rfl) (dc_nameF (i := 1) (dc_nil))))
    (dss_cons (ds_ret ((lc1 (g := false) [("k", 3)] (f := false) (fun z => nomatch z) rfl hN (di_rng1 m_range (by rfl) (deg_f (((u_lenK m_len (by rfl)).toN (du_var (i := 0))).toE))) (fun _ _ _ _ _ => dg_name (i := 3) hN) (fun _ _ _ _ _ => dtg_f (dt_v (de_call h__law_differs hr (by rfl) (dc_nameF (i := 0) (dc_name (i := 2) (dc_nameF (i := 1) (dc_nameF (i := 3) (dc_nil)))))))) (fun _ _ _ _ _ => deg_f (de_name (i := 3))) (by kernel_rfl)).de))
    (dss_nil))
end
section
set_option maxHeartbeats 0
variable {P : Program} {w : World} {K : PySem.W.Frag} {mg : Str → Option Value} {base : Heap} {k : Nat}
theorem t__law_picked (h__law_draw : Has P w K mg base k "_law_draw" S__law_draw) {f : Addr} {cdv : Value} {A : Around} {outer : List Env} {s : Shared} {H : Hp} {E : XK} (hr : Room k (A.deeper (envOfC "_law_picked" (defScope s__law_picked) s.heap.objs.size f cdv))) :
  DSs (cxOf CX0 P w K mg base N__law_picked "_law_picked" (defScope s__law_picked) f cdv A outer s H E).nox (defBody s__law_picked) w__law_picked := by
  have hN : N__law_picked.Nodup := sc__law_picked.nd
  have hu0 := room_u0 hr
  have hu : _ := hu0
  have hu1 := room_u1 hr
  delta w__law_picked w__law_picked_1 w__law_picked_2
  exact dss_cons (ds_asg (i := 2) hN (de_lst (da_nil)))
    (dss_cons (ds_forN (j := 1) PassesOwn.never rfl (dg_name (i := 3) hN) (dss_cons (ds_if ((c_eq hu).toTEU (de_call h__law_draw hr (by rfl) (dc_name (i := 0) (dc_val (de_f (de_u (du_int))) (dc_nil)))) (du_int)) (dss_cons (ds_appN (i := 2) (de_name (i := 3)))
    (dss_nil)) (dss_nil))
    (dss_nil)))
    (dss_cons (ds_ret (de_name (i := 2)))
    (dss_nil)))
end
section
set_option maxHeartbeats 0
variable {P : Program} {w : World} {K : PySem.W.Frag} {mg : Str → Option Value} {base : Heap} {k : Nat}
theorem t__law_second (m_len : mg "len" = none) (m_range : mg "range" = none) (h__law_draw : Has P w K mg base k "_law_draw" S__law_draw) (h__law_picked : Has P w K mg base k "_law_picked" S__law_picked) (h__law_rows : Has P w K mg base k "_law_rows" S__law_rows) {f : Addr} {cdv : Value} {A : Around} {outer : List Env} {s : Shared} {H : Hp} {E : XK} (hr : Room k (A.deeper (envOfC "_law_second" (defScope s__law_second) s.heap.objs.size f cdv))) :
  DSs (cxOf CX0 P w K mg base N__law_second "_law_second" (defScope s__law_second) f cdv A outer s H E).nox (defBody s__law_second) w__law_second := by
  have hN : N__law_second.Nodup := sc__law_second.nd
  have hu0 := room_u0 hr
  have hu : _ := hu0
  have hu1 := room_u1 hr
  delta w__law_second w__law_second_1 w__law_second_2 w__law_second_3 w__law_second_4 w__law_second_5 w__law_second_6 w__law_second_7
  exact dss_cons (ds_asg (i := 4) hN (de_call h__law_draw hr (by rfl) (dc_name (i := 0) (dc_val (de_f (de_u (du_int))) (dc_nil)))))
    (dss_cons (ds_if ((c_eq hu).toT (du_var (i := 4)) (du_int)) (dss_cons (ds_asg (i := 5) hN (de_ix hu0 (de_name (i := 2)) (de_call h__law_draw hr (by rfl) (dc_name (i := 0) (dc_val (de_f (((u_lenK m_len (by rfl)).toN (du_var (i := 2))).toE)) (dc_nil))))))
    (dss_cons (ds_ret ((lc1 (g := true) [("state", 11)] (f := true) (fun _ => rfl) rfl hN (di_h (du_var (i := 2))) (fun _ _ _ _ _ => dg_name (i := 11) hN) (fun _ _ _ _ _ => dtg_c (c_ne hu) (((c_in hu1).br.toN (du_var (i := 11)) (du_var (i := 3))).toU) (((c_eq hu).br.toN (du_var (i := 11)) (du_var (i := 5))).toU)) (fun _ _ _ _ _ => deg_u (du_var (i := 11))) (by kernel_rfl)).de))
    (dss_nil))) (dss_nil))
    (dss_cons (ds_if ((c_eq hu).toT (du_var (i := 4)) (du_int)) (dss_cons (ds_ret (de_call h__law_picked hr (by rfl) (dc_name (i := 0) (dc_nameF (i := 2) (dc_nil)))))
    (dss_nil)) (dss_nil))
    (dss_cons (ds_asg (i := 6) hN (de_call h__law_rows hr (by rfl) (dc_val (de_f ((dn_sl (du_var (i := 1)) (do_some (du_int)) (do_none)).toE)) (dc_nil))))
    (dss_cons (ds_asg (i := 7) hN (de_lst (da_cons (de_call h__law_picked hr (by rfl) (dc_name (i := 0) (dc_nameF (i := 6) (dc_nil)))) (da_cons (de_call h__law_picked hr (by rfl) (dc_name (i := 0) (dc_nameF (i := 6) (dc_nil)))) (da_cons (de_lst (da_nil)) (da_nil))))))
    (dss_cons (ds_asg (i := 8) hN (de_lst (da_nil)))
    (dss_cons (ds_frz 7 (ds_for (g := false) PassesOwn.never rfl (di_rng1 m_range (by rfl) (deg_f (de_u (du_ix hu0 (du_var (i := 1)) (du_int))))) (dg_name (i := 9) hN) (dss_cons (ds_for (g := false) PassesOwn.never rfl (di_e (de_f (de_ix hu0 (de_name (i := 7)) (de_call h__law_draw hr (by rfl) (dc_name (i := 0) (dc_val (de_f (de_u (du_int))) (dc_nil))))))) (dg_name (i := 10) hN) (dss_cons (ds_appN (i := 8) ((b_plus.toN ((dn_tup (dau_cons (du_var (i := 9)) (dau_nil))).toU) (du_var (i := 10))).toE))
    (dss_nil)))
    (dss_nil))))
    (dss_cons (ds_ret (de_name (i := 8)))
    (dss_nil))))))))
end
section
set_option maxHeartbeats 0
variable {P : Program} {w : World} {K : PySem.W.Frag} {mg : Str → Option Value} {base : Heap} {k : Nat}
theorem t__law_mixed (m_len : mg "len" = none) (m_list : mg "list" = none) (h__law_draw : Has P w K mg base k "_law_draw" S__law_draw) {f : Addr} {cdv : Value} {A : Around} {outer : List Env} {s : Shared} {H : Hp} {E : XK} (hr : Room k (A.deeper (envOfC "_law_mixed" (defScope s__law_mixed) s.heap.objs.size f cdv))) :
  DSs (cxOf CX0 P w K mg base N__law_mixed "_law_mixed" (defScope s__law_mixed) f cdv A outer s H E).nox (defBody s__law_mixed) w__law_mixed := by
  have hN : N__law_mixed.Nodup := sc__law_mixed.nd
  have hu0 := room_u0 hr
  have hu : _ := hu0
  have hu1 := room_u1 hr
  delta w__law_mixed w__law_mixed_1 w__law_mixed_2 w__law_mixed_3 w__law_mixed_4 w__law_mixed_5
  exact dss_cons (ds_asg (i := 2) hN (((u_lst rfl m_list (by rfl)).toN (du_var (i := 1))).toE))
    (dss_cons (ds_if ((c_ne hu).toT (du_var (i := 2)) ((dn_lst (dau_nil)).toU)) (dss_cons (ds_asg (i := 3) hN (de_call h__law_draw hr (by rfl) (dc_name (i := 0) (dc_val (de_f (((u_lenK m_len (by rfl)).toN (du_var (i := 2))).toE)) (dc_nil)))))
    (dss_cons (ds_asg (i := 2) hN ((b_plus.toN ((dn_sl (du_var (i := 2)) (do_some (du_var (i := 3))) (do_none)).toU) ((dn_sl (du_var (i := 2)) (do_none) (do_some (du_var (i := 3)))).toU)).toE))
    (dss_nil))) (dss_nil))
    (dss_cons (ds_asg (i := 4) hN (de_call h__law_draw hr (by rfl) (dc_name (i := 0) (dc_val (de_f (de_u (du_int))) (dc_nil)))))
    (dss_cons (ds_if ((c_eq hu).toT (du_var (i := 4)) (du_int)) (dss_cons (ds_asg (i := 2) hN ((dn_sl3 (du_var (i := 2)) (do_none) (do_none) (do_some ((u_neg.toN (du_int)).toU))).toE))
    (dss_nil)) (dss_nil))
    (dss_cons (ds_if ((c_eq hu).toT (du_var (i := 4)) (du_int)) (dss_cons (ds_asg (i := 2) hN ((b_plus.toN ((dn_sl3 (du_var (i := 2)) (do_some (du_int)) (do_none) (do_some (du_int))).toU) ((dn_sl3 (du_var (i := 2)) (do_none) (do_none) (do_some (du_int))).toU)).toE))
    (dss_nil)) (dss_nil))
    (dss_cons (ds_frz 2 (ds_ret (b_plus.toE (de_name (i := 2)) (de_sl (de_name (i := 2)) (doe_none) (doe_some (de_call h__law_draw hr (by rfl) (dc_name (i := 0) (dc_val (de_f (de_u (du_int))) (dc_nil)))))))))
    (dss_nil))))))
end
section
set_option maxHeartbeats 0
variable {P : Program} {w : World} {K : PySem.W.Frag} {mg : Str → Option Value} {base : Heap} {k : Nat}
theorem t__law_is_number (m_bool : mg "bool" = none) (m_int : mg "int" = none) (m_isinstance : mg "isinstance" = none) {f : Addr} {cdv : Value} {A : Around} {outer : List Env} {s : Shared} {H : Hp} {E : XK} (hr : Room k (A.deeper (envOfC "_law_is_number" (defScope s__law_is_number) s.heap.objs.size f cdv))) :
  DSs (cxOf CX0 P w K mg base N__law_is_number "_law_is_number" (defScope s__law_is_number) f cdv A outer s H E).nox (defBody s__law_is_number) w__law_is_number := by
  have hN : N__law_is_number.Nodup := sc__law_is_number.nd
  have hu0 := room_u0 hr
  have hu : _ := hu0
  have hu1 := room_u1 hr
  delta w__law_is_number
  exact dss_cons (ds_ret (de_and (((u_isi .int m_isinstance (by rfl) m_int (by rfl) rfl (by decide) (by decide)).toN (du_var (i := 0))).toE) (de_one (de_not (((u_isi .bool m_isinstance (by rfl) m_bool (by rfl) rfl (by decide) (by decide)).toN (du_var (i := 0))).toE)))))
    (dss_nil)
end
section
set_option maxHeartbeats 0
variable {P : Program} {w : World} {K : PySem.W.Frag} {mg : Str → Option Value} {base : Heap} {k : Nat}
theorem t__law_are_numbers (m_isinstance : mg "isinstance" = none) (m_tuple : mg "tuple" = none) (h__law_is_number : Has P w K mg base k "_law_is_number" S__law_is_number) {f : Addr} {cdv : Value} {A : Around} {outer : List Env} {s : Shared} {H : Hp} {E : XK} (hr : Room k (A.deeper (envOfC "_law_are_numbers" (defScope s__law_are_numbers) s.heap.objs.size f cdv))) :
  DSs (cxOf CX0 P w K mg base N__law_are_numbers "_law_are_numbers" (defScope s__law_are_numbers) f cdv A outer s H E).nox (defBody s__law_are_numbers) w__law_are_numbers := by
  have hN : N__law_are_numbers.Nodup := sc__law_are_numbers.nd
  have hu0 := room_u0 hr
  have hu : _ := hu0
  have hu1 := room_u1 hr
  delta w__law_are_numbers w__law_are_numbers_1 w__law_are_numbers_2
  exact dss_cons (ds_if (dt_not (dt_v (((u_isi .tuple m_isinstance (by rfl) m_tuple (by rfl) rfl (by decide) (by decide)).toN (du_var (i := 0))).toE))) (dss_cons (ds_ret (de_u (du_bl)))
    (dss_nil)) (dss_nil))
    (dss_cons (ds_forN (j := 0) PassesOwn.never rfl (dg_name (i := 1) hN) (dss_cons (ds_if (dt_not (dt_v (de_call h__law_is_number hr (by rfl) (dc_nameF (i := 1) (dc_nil))))) (dss_cons (ds_ret (de_u (du_bl)))
    (dss_nil)) (dss_nil))
    (dss_nil)))
    (dss_cons (ds_ret (de_u (du_bl)))
    (dss_nil)))
end
section
set_option maxHeartbeats 0
variable {P : Program} {w : World} {K : PySem.W.Frag} {mg : Str → Option Value} {base : Heap} {k : Nat}
theorem t__law_are_states (m_isinstance : mg "isinstance" = none) (m_list : mg "list" = none) (h__law_are_numbers : Has P w K mg base k "_law_are_numbers" S__law_are_numbers) {f : Addr} {cdv : Value} {A : Around} {outer : List Env} {s : Shared} {H : Hp} {E : XK} (hr : Room k (A.deeper (envOfC "_law_are_states" (defScope s__law_are_states) s.heap.objs.size f cdv))) :
  DSs (cxOf CX0 P w K mg base N__law_are_states "_law_are_states" (defScope s__law_are_states) f cdv A outer s H E).nox (defBody s__law_are_states) w__law_are_states := by
  have hN : N__law_are_states.Nodup := sc__law_are_states.nd
  have hu0 := room_u0 hr
  have hu : _ := hu0
  have hu1 := room_u1 hr
  delta w__law_are_states w__law_are_states_1 w__law_are_states_2
  exact dss_cons (ds_if (dt_not (dt_v (((u_isi .list m_isinstance (by rfl) m_list (by rfl) rfl (by decide) (by decide)).toN (du_var (i := 0))).toE))) (dss_cons (ds_ret (de_u (du_bl)))
    (dss_nil)) (dss_nil))
    (dss_cons (ds_forN (j := 0) PassesOwn.never rfl (dg_name (i := 1) hN) (dss_cons (ds_if (dt_not (dt_v (de_call h__law_are_numbers hr (by rfl) (dc_nameF (i := 1) (dc_nil))))) (dss_cons (ds_ret (de_u (du_bl)))
    (dss_nil)) (dss_nil))
    (dss_nil)))
    (dss_cons (ds_ret (de_u (du_bl)))
    (dss_nil)))
end
section
set_option maxHeartbeats 0
variable {P : Program} {w : World} {K : PySem.W.Frag} {mg : Str → Option Value} {base : Heap} {k : Nat}
theorem t__law_are_boxes (m_isinstance : mg "isinstance" = none) (m_list : mg "list" = none) (m_tuple : mg "tuple" = none) (h__law_are_numbers : Has P w K mg base k "_law_are_numbers" S__law_are_numbers) {f : Addr} {cdv : Value} {A : Around} {outer : List Env} {s : Shared} {H : Hp} {E : XK} (hr : Room k (A.deeper (envOfC "_law_are_boxes" (defScope s__law_are_boxes) s.heap.objs.size f cdv))) :
  DSs (cxOf CX0 P w K mg base N__law_are_boxes "_law_are_boxes" (defScope s__law_are_boxes) f cdv A outer s H E).nox (defBody s__law_are_boxes) w__law_are_boxes := by
  have hN : N__law_are_boxes.Nodup := sc__law_are_boxes.nd
  have hu0 := room_u0 hr
  have hu : _ := hu0
  have hu1 := room_u1 hr
  delta w__law_are_boxes w__law_are_boxes_1 w__law_are_boxes_2 w__law_are_boxes_j1
  exact dss_cons (ds_if (dt_not (dt_v (((u_isi .list m_isinstance (by rfl) m_list (by rfl) rfl (by decide) (by decide)).toN (du_var (i := 0))).toE))) (dss_cons (ds_ret (de_u (du_bl)))
    (dss_nil)) (dss_nil))
    (dss_cons (ds_forN (j := 0) PassesOwn.never rfl (dg_name (i := 1) hN) (dss_cons (ds_if (dt_not (dt_v (((u_isi .tuple m_isinstance (by rfl) m_tuple (by rfl) rfl (by decide) (by decide)).toN (du_var (i := 1))).toE))) (dss_cons (ds_ret (de_u (du_bl)))
    (dss_nil)) (dss_nil))
    (dss_cons (ds_forN (j := 1) PassesOwn.never rfl (dg_name (i := 2) hN) (dss_cons (ds_if (dt_not (dt_v (de_call h__law_are_numbers hr (by rfl) (dc_nameF (i := 2) (dc_nil))))) (dss_cons (ds_ret (de_u (du_bl)))
    (dss_nil)) (dss_nil))
    (dss_nil)))
    (dss_nil))))
    (dss_cons (ds_ret (de_u (du_bl)))
    (dss_nil)))
end
section
set_option maxHeartbeats 0
variable {P : Program} {w : World} {K : PySem.W.Frag} {mg : Str → Option Value} {base : Heap} {k : Nat}
theorem t__law_states_told (m_list : mg "list" = none) (h__law_are_states : Has P w K mg base k "_law_are_states" S__law_are_states) (h_states_of : Has P w K mg base k "states_of" S_states_of) {f : Addr} {cdv : Value} {A : Around} {outer : List Env} {s : Shared} {H : Hp} {E : XK} (hr : Room k (A.deeper (envOfC "_law_states_told" (defScope s__law_states_told) s.heap.objs.size f cdv))) :
  DSs (cxOf CX0 P w K mg base N__law_states_told "_law_states_told" (defScope s__law_states_told) f cdv A outer s H E).nox (defBody s__law_states_told) w__law_states_told := by
  have hN : N__law_states_told.Nodup := sc__law_states_told.nd
  have hu0 := room_u0 hr
  have hu : _ := hu0
  have hu1 := room_u1 hr
  delta w__law_states_told w__law_states_told_1 w__law_states_told_2 w__law_states_told_3 w__law_states_told_4 w__law_states_told_5
  exact dss_cons (ds_asg (i := 2) hN (((u_lst rfl m_list (by rfl)).toN (du_var (i := 0))).toE))
    (dss_cons (ds_asg (i := 3) hN (de_call h_states_of hr (by rfl) (dc_nameF (i := 2) (dc_nil))))
    (dss_cons (ds_if ((dw_or (dt_not (dt_v (de_call h__law_are_states hr (by rfl) (dc_name (i := 3) (dc_nil))))) (dw_or ((c_ne hu).toT (du_var (i := 3)) (du_var (i := 1))) (dw_or1 ((c_ne hu).toT (du_var (i := 2)) (du_var (i := 0)))))).dt) (dss_cons (ds_ret (de_u (du_bl)))
    (dss_nil)) (dss_nil))
    (dss_cons (ds_appN (i := 3) ((dn_tup (dau_nil)).toE))
    (dss_cons (ds_sub hu0 (de_u (du_ix hu0 (du_var (i := 3)) ((u_neg.toN (du_int)).toU))) (dp_var (i := 3)) (du_int))
    (dss_cons (ds_ret ((c_eq hu).br.toEU (de_call h_states_of hr (by rfl) (dc_nameF (i := 2) (dc_nil))) (du_var (i := 1))))
    (dss_nil))))))
end
section
set_option maxHeartbeats 0
variable {P : Program} {w : World} {K : PySem.W.Frag} {mg : Str → Option Value} {base : Heap} {k : Nat}
theorem t__law_boxes_told (m_list : mg "list" = none) (h__law_are_boxes : Has P w K mg base k "_law_are_boxes" S__law_are_boxes) (h_boxes_of : Has P w K mg base k "boxes_of" S_boxes_of) {f : Addr} {cdv : Value} {A : Around} {outer : List Env} {s : Shared} {H : Hp} {E : XK} (hr : Room k (A.deeper (envOfC "_law_boxes_told" (defScope s__law_boxes_told) s.heap.objs.size f cdv))) :
  DSs (cxOf CX0 P w K mg base N__law_boxes_told "_law_boxes_told" (defScope s__law_boxes_told) f cdv A outer s H E).nox (defBody s__law_boxes_told) w__law_boxes_told := by
  have hN : N__law_boxes_told.Nodup := sc__law_boxes_told.nd
  have hu0 := room_u0 hr
  have hu : _ := hu0
  have hu1 := room_u1 hr
  delta w__law_boxes_told w__law_boxes_told_1 w__law_boxes_told_2 w__law_boxes_told_3 w__law_boxes_told_4 w__law_boxes_told_5
  exact dss_cons (ds_asg (i := 3) hN (((u_lst rfl m_list (by rfl)).toN (du_var (i := 1))).toE))
    (dss_cons (ds_asg (i := 4) hN (de_call h_boxes_of hr (by rfl) (dc_nameF (i := 0) (dc_nameF (i := 3) (dc_nil)))))
    (dss_cons (ds_if ((dw_or (dt_not (dt_v (de_call h__law_are_boxes hr (by rfl) (dc_name (i := 4) (dc_nil))))) (dw_or ((c_ne hu).toT (du_var (i := 4)) (du_var (i := 2))) (dw_or1 ((c_ne hu).toT (du_var (i := 3)) (du_var (i := 1)))))).dt) (dss_cons (ds_ret (de_u (du_bl)))
    (dss_nil)) (dss_nil))
    (dss_cons (ds_appN (i := 4) ((dn_tup (dau_nil)).toE))
    (dss_cons (ds_sub hu0 (de_u (du_ix hu0 (du_var (i := 4)) ((u_neg.toN (du_int)).toU))) (dp_var (i := 4)) (du_int))
    (dss_cons (ds_ret ((c_eq hu).br.toEU (de_call h_boxes_of hr (by rfl) (dc_nameF (i := 0) (dc_nameF (i := 3) (dc_nil)))) (du_var (i := 2))))
    (dss_nil))))))
end
section
set_option maxHeartbeats 0
variable {P : Program} {w : World} {K : PySem.W.Frag} {mg : Str → Option Value} {base : Heap} {k : Nat}
theorem t__law_seen_told (m_isinstance : mg "isinstance" = none) (m_list : mg "list" = none) (m_tuple : mg "tuple" = none) (h__law_are_numbers : Has P w K mg base k "_law_are_numbers" S__law_are_numbers) (h_seen_by : Has P w K mg base k "seen_by" S_seen_by) {f : Addr} {cdv : Value} {A : Around} {outer : List Env} {s : Shared} {H : Hp} {E : XK} (hr : Room k (A.deeper (envOfC "_law_seen_told" (defScope s__law_seen_told) s.heap.objs.size f cdv))) :
  DSs (cxOf CX0 P w K mg base N__law_seen_told "_law_seen_told" (defScope s__law_seen_told) f cdv A outer s H E).nox (defBody s__law_seen_told) w__law_seen_told := by
  have hN : N__law_seen_told.Nodup := sc__law_seen_told.nd
  have hu0 := room_u0 hr
  have hu : _ := hu0
  have hu1 := room_u1 hr
  delta w__law_seen_told w__law_seen_told_1 w__law_seen_told_2 w__law_seen_told_3 w__law_seen_told_4 w__law_seen_told_5
  exact dss_cons (ds_asg (i := 3) hN (((u_lst rfl m_list (by rfl)).toN (du_var (i := 1))).toE))
    (dss_cons (ds_asg (i := 4) hN (de_call h_seen_by hr (by rfl) (dc_nameF (i := 0) (dc_nameF (i := 3) (dc_nil)))))
    (dss_cons (ds_if ((dw_or (dt_not (dt_v (((u_isi .list m_isinstance (by rfl) m_list (by rfl) rfl (by decide) (by decide)).toN (du_var (i := 4))).toE))) (dw_or1 (dt_not (dt_v (de_call h__law_are_numbers hr (by rfl) (dc_val (de_f (((u_tup rfl m_tuple (by rfl)).toN (du_var (i := 4))).toE)) (dc_nil))))))).dt) (dss_cons (ds_ret (de_u (du_bl)))
    (dss_nil)) (dss_nil))
    (dss_cons (ds_if ((dw_or ((c_ne hu).toT (du_var (i := 4)) (du_var (i := 2))) (dw_or1 ((c_ne hu).toT (du_var (i := 3)) (du_var (i := 1))))).dt) (dss_cons (ds_ret (de_u (du_bl)))
    (dss_nil)) (dss_nil))
    (dss_cons (ds_appN (i := 4) (de_u (du_int)))
    (dss_cons (ds_ret ((c_eq hu).br.toEU (de_call h_seen_by hr (by rfl) (dc_nameF (i := 0) (dc_nameF (i := 3) (dc_nil)))) (du_var (i := 2))))
    (dss_nil))))))
end
section
set_option maxHeartbeats 0
variable {P : Program} {w : World} {K : PySem.W.Frag} {mg : Str → Option Value} {base : Heap} {k : Nat}
theorem t__law_inside_told (m_bool : mg "bool" = none) (m_isinstance : mg "isinstance" = none) (m_len : mg "len" = none) (m_list : mg "list" = none) (m_range : mg "range" = none) (h__law_draw : Has P w K mg base k "_law_draw" S__law_draw) (h_inside : Has P w K mg base k "inside" S_inside) {f : Addr} {cdv : Value} {A : Around} {outer : List Env} {s : Shared} {H : Hp} {E : XK} (hr : Room k (A.deeper (envOfC "_law_inside_told" (defScope s__law_inside_told) s.heap.objs.size f cdv))) :
  DSs (cxOf CX0 P w K mg base N__law_inside_told "_law_inside_told" (defScope s__law_inside_told) f cdv A outer s H E).nox (defBody s__law_inside_told) w__law_inside_told := by
  have hN : N__law_inside_told.Nodup := sc__law_inside_told.nd
  have hu0 := room_u0 hr
  have hu : _ := hu0
  have hu1 := room_u1 hr
  delta w__law_inside_told w__law_inside_told_1 w__law_inside_told_2 w__law_inside_told_3 w__law_inside_told_4
  exact dss_cons (ds_asg (i := 4) hN (((u_lst rfl m_list (by rfl)).toN (du_var (i := 2))).toE))
    (dss_cons (ds_if (c_gt.toT (((u_lenK m_len (by rfl)).toN (du_var (i := 2))).toU) (du_int)) (dss_cons (ds_lc (i := 4) (lc1 (g := false) [("k", 8)] (f := false) (fun z => nomatch z) rfl hN (di_rng1 m_range (by rfl) (deg_f (de_u (du_int)))) (fun _ _ _ _ _ => dg_name (i := 8) hN) (fun _ _ _ _ _ => dtg_nil) (fun _ _ _ _ _ => deg_f (de_ix hu0 (de_name (i := 2)) (de_call h__law_draw hr (by rfl) (dc_name (i := 0) (dc_val (de_f (((u_lenK m_len (by rfl)).toN (du_var (i := 2))).toE)) (dc_nil)))))) (by kernel_rfl)))
    (dss_nil)) (dss_nil))
    (dss_cons (ds_asg (i := 5) hN (((u_lst rfl m_list (by rfl)).toN (du_var (i := 1))).toE))
    (dss_cons (ds_forN (j := 4) PassesOwn.never rfl (dg_name (i := 6) hN) (dss_cons (ds_asg (i := 7) hN (de_call h_inside hr (by rfl) (dc_nameF (i := 5) (dc_nameF (i := 6) (dc_nil)))))
    (dss_cons (ds_if ((dw_or (dt_not (dt_v (((u_isi .bool m_isinstance (by rfl) m_bool (by rfl) rfl (by decide) (by decide)).toN (du_var (i := 7))).toE))) (dw_or1 ((c_ne hu).toT (du_var (i := 7)) (((c_in hu1).br.toN (du_var (i := 6)) (du_var (i := 3))).toU)))).dt) (dss_cons (ds_ret (de_u (du_bl)))
    (dss_nil)) (dss_nil))
    (dss_nil))))
    (dss_cons (ds_ret (((c_eq hu).br.toN (du_var (i := 5)) (du_var (i := 1))).toE))
    (dss_nil)))))
end
section
set_option maxHeartbeats 0
variable {P : Program} {w : World} {K : PySem.W.Frag} {mg : Str → Option Value} {base : Heap} {k m : Nat}
theorem t_law (m_len : mg "len" = none) (h__law_boxes : Has P w K mg base k "_law_boxes" (S__law_boxes m)) (h__law_boxes_told : Has P w K mg base k "_law_boxes_told" S__law_boxes_told) (h__law_draw : Has P w K mg base k "_law_draw" S__law_draw) (h__law_hand : Has P w K mg base k "_law_hand" S__law_hand) (h__law_holds : Has P w K mg base k "_law_holds" S__law_holds) (h__law_inside_told : Has P w K mg base k "_law_inside_told" S__law_inside_told) (h__law_known : Has P w K mg base k "_law_known" S__law_known) (h__law_mixed : Has P w K mg base k "_law_mixed" S__law_mixed) (h__law_region : Has P w K mg base k "_law_region" S__law_region) (h__law_rows : Has P w K mg base k "_law_rows" S__law_rows) (h__law_second : Has P w K mg base k "_law_second" S__law_second) (h__law_seen : Has P w K mg base k "_law_seen" S__law_seen) (h__law_seen_told : Has P w K mg base k "_law_seen_told" S__law_seen_told) (h__law_sizes : Has P w K mg base k "_law_sizes" S__law_sizes) (h__law_states_told : Has P w K mg base k "_law_states_told" S__law_states_told) {f : Addr} {cdv : Value} {A : Around} {outer : List Env} {s : Shared} {H : Hp} {E : XK} (hr : Room k (A.deeper (envOfC "law" (defScope s_law) s.heap.objs.size f cdv))) :
  DSs (cxOf CX0 P w K mg base N_law "law" (defScope s_law) f cdv A outer s H E).nox (defBody s_law) (w_law m) := by
  have hN : N_law.Nodup := sc_law.nd
  have hu0 := room_u0 hr
  have hu : _ := hu0
  have hu1 := room_u1 hr
  delta w_law w_law_1 w_law_2 w_law_3 w_law_4 w_law_5 w_law_6 w_law_7 w_law_8 w_law_9 w_law_10 w_law_11 w_law_12 w_law_13 w_law_14 w_law_15 w_law_16 w_law_17 w_law_18 w_law_19 w_law_20
  exact dss_cons (ds_asg (i := 1) hN (de_call h__law_hand hr (by rfl) (dc_name (i := 0) (dc_nil))))
    (dss_cons (ds_asg (i := 2) hN (de_call h__law_sizes hr (by rfl) (dc_name (i := 1) (dc_nil))))
    (dss_cons (ds_asg (i := 3) hN (de_call h__law_region hr (by rfl) (dc_name (i := 1) (dc_nameF (i := 2) (dc_nil)))))
    (dss_cons (ds_frz 3 (ds_asg (i := 4) hN (de_call h__law_rows hr (by rfl) (dc_nameF (i := 2) (dc_nil)))))
    (dss_cons (ds_lc (i := 5) (lc1 (g := false) [("state", 13)] (f := false) (fun z => nomatch z) rfl hN (di_fz (j := 4)) (fun _ _ _ _ _ => dg_name (i := 13) hN) (fun _ _ _ _ _ => dtg_f (dt_v (de_call h__law_holds hr (by rfl) (dc_nameF (i := 3) (dc_nameF (i := 13) (dc_nil)))))) (fun _ _ _ _ _ => deg_f (de_name (i := 13))) (by kernel_rfl)))
    (dss_cons (ds_asg (i := 6) hN (de_call h__law_known hr (by rfl) (dc_nameF (i := 5) (dc_nil))))
    (dss_cons (ds_asg (i := 7) hN (de_call h__law_boxes hr (by rfl) (dc_nameF (i := 5) (dc_val (de_f (((u_lenK m_len (by rfl)).toN (du_var (i := 2))).toE)) (dc_nil)))))
    (dss_cons (ds_asg (i := 8) hN (de_call h__law_seen hr (by rfl) (dc_nameF (i := 2) (dc_nameF (i := 5) (dc_nil)))))
    (dss_cons (ds_if ((dw_or (dt_not (dt_v (de_call h__law_states_told hr (by rfl) (dc_nameF (i := 3) (dc_nameF (i := 5) (dc_nil)))))) (dw_or1 (dt_not (dt_v (de_call h__law_states_told hr (by rfl) (dc_nameF (i := 7) (dc_nameF (i := 5) (dc_nil)))))))).dt) (dss_cons (ds_ret (de_u (du_bl)))
    (dss_nil)) (dss_nil))
    (dss_cons (ds_if (dt_not (dt_v (de_call h__law_boxes_told hr (by rfl) (dc_nameF (i := 2) (dc_val (de_f (de_call h__law_mixed hr (by rfl) (dc_name (i := 1) (dc_nameF (i := 5) (dc_nil))))) (dc_nameF (i := 7) (dc_nil))))))) (dss_cons (ds_ret (de_u (du_bl)))
    (dss_nil)) (dss_nil))
    (dss_cons (ds_if ((dw_or (dt_not (dt_v (de_call h__law_seen_told hr (by rfl) (dc_nameF (i := 2) (dc_nameF (i := 3) (dc_nameF (i := 8) (dc_nil))))))) (dw_or1 (dt_not (dt_v (de_call h__law_seen_told hr (by rfl) (dc_nameF (i := 2) (dc_nameF (i := 7) (dc_nameF (i := 8) (dc_nil))))))))).dt) (dss_cons (ds_ret (de_u (du_bl)))
    (dss_nil)) (dss_nil))
    (dss_cons (ds_if ((dw_or (dt_not (dt_v (de_call h__law_inside_told hr (by rfl) (dc_name (i := 1) (dc_nameF (i := 3) (dc_nameF (i := 4) (dc_name (i := 6) (dc_nil)))))))) (dw_or1 (dt_not (dt_v (de_call h__law_inside_told hr (by rfl) (dc_name (i := 1) (dc_nameF (i := 7) (dc_nameF (i := 4) (dc_name (i := 6) (dc_nil)))))))))).dt) (dss_cons (ds_ret (de_u (du_bl)))
    (dss_nil)) (dss_nil))
    (dss_cons (ds_asg (i := 9) hN (de_call h__law_second hr (by rfl) (dc_name (i := 1) (dc_nameF (i := 2) (dc_nameF (i := 4) (dc_name (i := 6) (dc_nil)))))))
    (dss_cons (ds_lc (i := 10) (lc1 (g := true) [("state", 13)] (f := true) (fun _ => rfl) rfl hN (di_h (du_var (i := 4))) (fun _ _ _ _ _ => dg_name (i := 13) hN) (fun _ _ _ _ _ => dtg_c (c_notin hu1) (du_var (i := 13)) (du_var (i := 6))) (fun _ _ _ _ _ => deg_u (du_var (i := 13))) (by kernel_rfl)))
    (dss_cons (ds_asg (i := 11) hN (de_call h__law_boxes hr (by rfl) (dc_nameF (i := 9) (dc_val (de_f (((u_lenK m_len (by rfl)).toN (du_var (i := 2))).toE)) (dc_nil)))))
    (dss_cons (ds_asg (i := 12) hN (de_call h__law_boxes hr (by rfl) (dc_nameF (i := 10) (dc_val (de_f (((u_lenK m_len (by rfl)).toN (du_var (i := 2))).toE)) (dc_nil)))))
    (dss_cons (ds_if ((dw_or (dt_not (dt_v (de_call h__law_boxes_told hr (by rfl) (dc_nameF (i := 2) (dc_val (de_f (de_call h__law_mixed hr (by rfl) (dc_name (i := 1) (dc_nameF (i := 9) (dc_nil))))) (dc_nameF (i := 11) (dc_nil))))))) (dw_or1 (dt_not (dt_v (de_call h__law_states_told hr (by rfl) (dc_nameF (i := 11) (dc_nameF (i := 9) (dc_nil)))))))).dt) (dss_cons (ds_ret (de_u (du_bl)))
    (dss_nil)) (dss_nil))
    (dss_cons (ds_if (dt_not (dt_v (de_call h__law_seen_told hr (by rfl) (dc_nameF (i := 2) (dc_nameF (i := 11) (dc_val (de_f (de_call h__law_seen hr (by rfl) (dc_nameF (i := 2) (dc_nameF (i := 9) (dc_nil))))) (dc_nil))))))) (dss_cons (ds_ret (de_u (du_bl)))
    (dss_nil)) (dss_nil))
    (dss_cons (ds_if ((dw_or (dt_not (dt_v (de_call h__law_boxes_told hr (by rfl) (dc_nameF (i := 2) (dc_nameF (i := 10) (dc_nameF (i := 12) (dc_nil))))))) (dw_or1 (dt_not (dt_v (de_call h__law_seen_told hr (by rfl) (dc_nameF (i := 2) (dc_nameF (i := 12) (dc_nameF (i := 8) (dc_nil))))))))).dt) (dss_cons (ds_ret (de_u (du_bl)))
    (dss_nil)) (dss_nil))
    (dss_cons (ds_if (dt_not (dt_v (de_call h__law_boxes_told hr (by rfl) (dc_nameF (i := 2) (dc_nameF (i := 5) (dc_nameF (i := 7) (dc_nil))))))) (dss_cons (ds_ret (de_u (du_bl)))
    (dss_nil)) (dss_nil))
    (dss_cons (ds_ret (de_and (de_call h__law_boxes_told hr (by rfl) (dc_val (de_f ((dn_tup (dau_nil)).toE)) (dc_val (de_f (de_lst (da_nil))) (dc_val (de_f (de_lst (da_nil))) (dc_nil))))) (de_one (de_call h__law_boxes_told hr (by rfl) (dc_val (de_f ((dn_tup (dau_nil)).toE)) (dc_val (de_f (b_times.toE (de_lst (da_cons ((dn_tup (dau_nil)).toE) (da_nil))) (b_plus.toE (de_u (du_int)) (de_call h__law_draw hr (by rfl) (dc_name (i := 1) (dc_val (de_f (de_u (du_int))) (dc_nil))))))) (dc_val (de_f (de_lst (da_cons ((dn_tup (dau_nil)).toE) (da_nil)))) (dc_nil))))))))
    (dss_nil)))))))))))))))))))))
end
end R09

set_option maxRecDepth 100000
set_option maxHeartbeats 0
namespace R09
open PySem PySem.Spec PyProof.Rows L2
def d_boxes_of : He.DefD := ⟨("boxes_of", none), "boxes_of", "boxes_of", defArgs s_boxes_of, defBody s_boxes_of, defScope s_boxes_of, [], []⟩
def d_states_of : He.DefD := ⟨("states_of", none), "states_of", "states_of", defArgs s_states_of, defBody s_states_of, defScope s_states_of, [], []⟩
def d_inside : He.DefD := ⟨("inside", none), "inside", "inside", defArgs s_inside, defBody s_inside, defScope s_inside, [], []⟩
def d_seen_by : He.DefD := ⟨("seen_by", none), "seen_by", "seen_by", defArgs s_seen_by, defBody s_seen_by, defScope s_seen_by, [], []⟩
def d__in_box : He.DefD := ⟨("_in_box", none), "_in_box", "_in_box", defArgs s__in_box, defBody s__in_box, defScope s__in_box, [], []⟩
def d__joined : He.DefD := ⟨("_joined", none), "_joined", "_joined", defArgs s__joined, defBody s__joined, defScope s__joined, [], []⟩
def d__is_seen : He.DefD := ⟨("_is_seen", none), "_is_seen", "_is_seen", defArgs s__is_seen, defBody s__is_seen, defScope s__is_seen, [], []⟩
def d__law_cell : He.DefD := ⟨("_law_cell", none), "_law_cell", "_law_cell", defArgs s__law_cell, defBody s__law_cell, defScope s__law_cell, [], []⟩
def d__law_hand : He.DefD := ⟨("_law_hand", none), "_law_hand", "_law_hand", defArgs s__law_hand, defBody s__law_hand, defScope s__law_hand, [], []⟩
def d__law_draw : He.DefD := ⟨("_law_draw", none), "_law_draw", "_law_draw", defArgs s__law_draw, defBody s__law_draw, defScope s__law_draw, [], []⟩
def d__law_rows : He.DefD := ⟨("_law_rows", none), "_law_rows", "_law_rows", defArgs s__law_rows, defBody s__law_rows, defScope s__law_rows, [], []⟩
def d__law_sizes : He.DefD := ⟨("_law_sizes", none), "_law_sizes", "_law_sizes", defArgs s__law_sizes, defBody s__law_sizes, defScope s__law_sizes, [], []⟩
def d__law_entry : He.DefD := ⟨("_law_entry", none), "_law_entry", "_law_entry", defArgs s__law_entry, defBody s__law_entry, defScope s__law_entry, [], []⟩
def d__law_region : He.DefD := ⟨("_law_region", none), "_law_region", "_law_region", defArgs s__law_region, defBody s__law_region, defScope s__law_region, [], []⟩
def d__law_holds : He.DefD := ⟨("_law_holds", none), "_law_holds", "_law_holds", defArgs s__law_holds, defBody s__law_holds, defScope s__law_holds, [], []⟩
def d__law_boxes : He.DefD := ⟨("_law_boxes", none), "_law_boxes", "_law_boxes", defArgs s__law_boxes, defBody s__law_boxes, defScope s__law_boxes, [], []⟩
def d__law_differs : He.DefD := ⟨("_law_differs", none), "_law_differs", "_law_differs", defArgs s__law_differs, defBody s__law_differs, defScope s__law_differs, [], []⟩
def d__law_known : He.DefD := ⟨("_law_known", none), "_law_known", "_law_known", defArgs s__law_known, defBody s__law_known, defScope s__law_known, [], []⟩
def d__law_seen : He.DefD := ⟨("_law_seen", none), "_law_seen", "_law_seen", defArgs s__law_seen, defBody s__law_seen, defScope s__law_seen, [], []⟩
def d__law_picked : He.DefD := ⟨("_law_picked", none), "_law_picked", "_law_picked", defArgs s__law_picked, defBody s__law_picked, defScope s__law_picked, [], []⟩
def d__law_second : He.DefD := ⟨("_law_second", none), "_law_second", "_law_second", defArgs s__law_second, defBody s__law_second, defScope s__law_second, [], []⟩
def d__law_mixed : He.DefD := ⟨("_law_mixed", none), "_law_mixed", "_law_mixed", defArgs s__law_mixed, defBody s__law_mixed, defScope s__law_mixed, [], []⟩
def d__law_is_number : He.DefD := ⟨("_law_is_number", none), "_law_is_number", "_law_is_number", defArgs s__law_is_number, defBody s__law_is_number, defScope s__law_is_number, [], []⟩
def d__law_are_numbers : He.DefD := ⟨("_law_are_numbers", none), "_law_are_numbers", "_law_are_numbers", defArgs s__law_are_numbers, defBody s__law_are_numbers, defScope s__law_are_numbers, [], []⟩
def d__law_are_states : He.DefD := ⟨("_law_are_states", none), "_law_are_states", "_law_are_states", defArgs s__law_are_states, defBody s__law_are_states, defScope s__law_are_states, [], []⟩
def d__law_are_boxes : He.DefD := ⟨("_law_are_boxes", none), "_law_are_boxes", "_law_are_boxes", defArgs s__law_are_boxes, defBody s__law_are_boxes, defScope s__law_are_boxes, [], []⟩
def d__law_states_told : He.DefD := ⟨("_law_states_told", none), "_law_states_told", "_law_states_told", defArgs s__law_states_told, defBody s__law_states_told, defScope s__law_states_told, [], []⟩
def d__law_boxes_told : He.DefD := ⟨("_law_boxes_told", none), "_law_boxes_told", "_law_boxes_told", defArgs s__law_boxes_told, defBody s__law_boxes_told, defScope s__law_boxes_told, [], []⟩
def d__law_seen_told : He.DefD := ⟨("_law_seen_told", none), "_law_seen_told", "_law_seen_told", defArgs s__law_seen_told, defBody s__law_seen_told, defScope s__law_seen_told, [], []⟩
def d__law_inside_told : He.DefD := ⟨("_law_inside_told", none), "_law_inside_told", "_law_inside_told", defArgs s__law_inside_told, defBody s__law_inside_told, defScope s__law_inside_told, [], []⟩
def d_law : He.DefD := ⟨("law", none), "law", "law", defArgs s_law, defBody s_law, defScope s_law, [], []⟩
def fn : List He.DefD := [d_boxes_of, d_states_of, d_inside, d_seen_by, d__in_box, d__joined, d__is_seen, d__law_cell, d__law_hand, d__law_draw, d__law_rows, d__law_sizes, d__law_entry, d__law_region, d__law_holds, d__law_boxes, d__law_differs, d__law_known, d__law_seen, d__law_picked, d__law_second, d__law_mixed, d__law_is_number, d__law_are_numbers, d__law_are_states, d__law_are_boxes, d__law_states_told, d__law_boxes_told, d__law_seen_told, d__law_inside_told, d_law]
def fa : List He.Fa := [.glo "boxes_of", .glo "states_of", .glo "inside", .glo "seen_by", .glo "_in_box", .glo "_joined", .glo "_is_seen", .glo "_law_cell", .glo "_law_hand", .glo "_law_draw", .glo "_law_rows", .glo "_law_sizes", .glo "_law_entry", .glo "_law_region", .glo "_law_holds", .glo "_law_boxes", .glo "_law_differs", .glo "_law_known", .glo "_law_seen", .glo "_law_picked", .glo "_law_second", .glo "_law_mixed", .glo "_law_is_number", .glo "_law_are_numbers", .glo "_law_are_states", .glo "_law_are_boxes", .glo "_law_states_told", .glo "_law_boxes_told", .glo "_law_seen_told", .glo "_law_inside_told", .glo "law", .free "bool", .free "enumerate", .free "int", .free "isinstance", .free "len", .free "list", .free "range", .free "sorted", .free "tuple", .free "zip"]
abbrev R : PySem.W.OpenRow := PySem.W.OpenLaw.row PySem.Challenge.rw_runcourt_k09_regions
abbrev hk : PySem.W.Hook := He.hookD 4 fa fn
def ob (s : PySem.W.SharedT) : He.AlD := He.obsDG 4 fa fn (HandSHeadRun.getT s)
theorem ob_eq (s : PySem.W.SharedT) : ob s = hk.obs s.abs := He.obsDG_eq (HandSHeadRun.getT_eq s)
def loose0 : List Str := ["boxes_of", "states_of", "inside", "seen_by", "_in_box", "_joined", "_is_seen", "_law_cell", "_law_hand", "_law_draw", "_law_rows", "_law_sizes", "_law_entry", "_law_region", "_law_holds", "_law_boxes", "_law_differs", "_law_known", "_law_seen", "_law_picked", "_law_second", "_law_mixed", "_law_is_number", "_law_are_numbers", "_law_are_states", "_law_are_boxes", "_law_states_told", "_law_boxes_told", "_law_seen_told", "_law_inside_told"]
def loose : List Str := loose0
end R09
namespace R09
open PySem PySem.Spec PyProof.Rows L2 DL
theorem has_mono {P : Program} {w : World} {K : PySem.W.Frag} {mg : Str → Option Value} {base : Heap} {j k : Nat} {x : Str} {S : SpT} (h : Has P w K mg base j x S) (l : j ≤ k) : Has P w K mg base k x S := by
  obtain ⟨f, fd, ps, G, h1, h2, h3⟩ := h.ex
  exact ⟨f, fd, ps, G.mono l, h1, h2, h3⟩
theorem has_of {P : Program} {w : World} {K : PySem.W.Frag} {mg : Str → Option Value} {base : Heap} {x qual : Str} {st : Stmt} {f : Addr} {fd : FuncData} {N ps : List Str} {k : Nat} {S : SpT} (F : FunD K x qual (defArgs st) (defBody st) (defScope st) [] [] f fd) (Sc : FnScope N ps (defScope st)) (g : mg x = some (.ref f)) (b : Binds K fd ps [])
    (len : ∀ ts R, S ts R → ts.length = ps.length)
    (hbody : ∀ (cdv : Value) (A : Around) (outer : List Env) (s : Shared) (H : Hp) (E : XK), Room k (A.deeper (envOfC qual (defScope st) s.heap.objs.size f cdv)) →
      ∃ wb, DSs (cxOf CX0 P w K mg base N qual (defScope st) f cdv A outer s H E).nox (defBody st) wb ∧ ∀ ts R, S ts R → wb (endsOf ts R) (startD N.length ts)) : Has P w K mg base (k + 1) x S :=
  ⟨f, fd, ps, fn_ok F Sc len hbody, g, F.kp, b⟩
theorem has_none {P : Program} {w : World} {K : PySem.W.Frag} {mg : Str → Option Value} {base : Heap} {x qual : Str} {st : Stmt} {f : Addr} {fd : FuncData} {ps : List Str} {k : Nat} {S : SpT} (F : FunD K x qual (defArgs st) (defBody st) (defScope st) [] [] f fd) (g : mg x = some (.ref f)) (b : Binds K fd ps []) (no : ∀ ts R, ¬ S ts R) : Has P w K mg base k x S :=
  ⟨f, fd, ps, ⟨fun _ _ _ _ h => by obtain ⟨_, _, _, _, _, h, _⟩ := h; exact absurd h (no _ _), fun _ _ _ _ _ _ _ _ _ _ _ _ _ h => by obtain ⟨_, _, _, _, _, h, _⟩ := h; exact absurd h (no _ _)⟩, g, F.kp, b⟩
theorem len__joined (m : Nat) : ∀ ts R, S__joined m ts R → ts.length = 1 := by
  intro ts R h
  first | (obtain ⟨_, rfl, _⟩ := h; rfl) | (obtain ⟨_, _, rfl, _⟩ := h; rfl) | (obtain ⟨_, _, _, rfl, _⟩ := h; rfl) | (obtain ⟨_, _, _, _, rfl, _⟩ := h; rfl) | (obtain ⟨_, _, _, _, _, rfl, _⟩ := h; rfl) | (obtain ⟨_, _, _, _, _, _, rfl, _⟩ := h; rfl)
theorem len_boxes_of : ∀ ts R, S_boxes_of ts R → ts.length = 2 := by
  intro ts R h
  first | (obtain ⟨_, rfl, _⟩ := h; rfl) | (obtain ⟨_, _, rfl, _⟩ := h; rfl) | (obtain ⟨_, _, _, rfl, _⟩ := h; rfl) | (obtain ⟨_, _, _, _, rfl, _⟩ := h; rfl) | (obtain ⟨_, _, _, _, _, rfl, _⟩ := h; rfl) | (obtain ⟨_, _, _, _, _, _, rfl, _⟩ := h; rfl)
theorem len_states_of : ∀ ts R, S_states_of ts R → ts.length = 1 := by
  intro ts R h
  first | (obtain ⟨_, rfl, _⟩ := h; rfl) | (obtain ⟨_, _, rfl, _⟩ := h; rfl) | (obtain ⟨_, _, _, rfl, _⟩ := h; rfl) | (obtain ⟨_, _, _, _, rfl, _⟩ := h; rfl) | (obtain ⟨_, _, _, _, _, rfl, _⟩ := h; rfl) | (obtain ⟨_, _, _, _, _, _, rfl, _⟩ := h; rfl)
theorem len__in_box : ∀ ts R, S__in_box ts R → ts.length = 2 := by
  intro ts R h
  first | (obtain ⟨_, rfl, _⟩ := h; rfl) | (obtain ⟨_, _, rfl, _⟩ := h; rfl) | (obtain ⟨_, _, _, rfl, _⟩ := h; rfl) | (obtain ⟨_, _, _, _, rfl, _⟩ := h; rfl) | (obtain ⟨_, _, _, _, _, rfl, _⟩ := h; rfl) | (obtain ⟨_, _, _, _, _, _, rfl, _⟩ := h; rfl)
theorem len_inside : ∀ ts R, S_inside ts R → ts.length = 2 := by
  intro ts R h
  first | (obtain ⟨_, rfl, _⟩ := h; rfl) | (obtain ⟨_, _, rfl, _⟩ := h; rfl) | (obtain ⟨_, _, _, rfl, _⟩ := h; rfl) | (obtain ⟨_, _, _, _, rfl, _⟩ := h; rfl) | (obtain ⟨_, _, _, _, _, rfl, _⟩ := h; rfl) | (obtain ⟨_, _, _, _, _, _, rfl, _⟩ := h; rfl)
theorem len__is_seen : ∀ ts R, S__is_seen ts R → ts.length = 3 := by
  intro ts R h
  first | (obtain ⟨_, rfl, _⟩ := h; rfl) | (obtain ⟨_, _, rfl, _⟩ := h; rfl) | (obtain ⟨_, _, _, rfl, _⟩ := h; rfl) | (obtain ⟨_, _, _, _, rfl, _⟩ := h; rfl) | (obtain ⟨_, _, _, _, _, rfl, _⟩ := h; rfl) | (obtain ⟨_, _, _, _, _, _, rfl, _⟩ := h; rfl)
theorem len_seen_by : ∀ ts R, S_seen_by ts R → ts.length = 2 := by
  intro ts R h
  first | (obtain ⟨_, rfl, _⟩ := h; rfl) | (obtain ⟨_, _, rfl, _⟩ := h; rfl) | (obtain ⟨_, _, _, rfl, _⟩ := h; rfl) | (obtain ⟨_, _, _, _, rfl, _⟩ := h; rfl) | (obtain ⟨_, _, _, _, _, rfl, _⟩ := h; rfl) | (obtain ⟨_, _, _, _, _, _, rfl, _⟩ := h; rfl)
theorem len__law_cell : ∀ ts R, S__law_cell ts R → ts.length = 1 := by
  intro ts R h
  first | (obtain ⟨_, rfl, _⟩ := h; rfl) | (obtain ⟨_, _, rfl, _⟩ := h; rfl) | (obtain ⟨_, _, _, rfl, _⟩ := h; rfl) | (obtain ⟨_, _, _, _, rfl, _⟩ := h; rfl) | (obtain ⟨_, _, _, _, _, rfl, _⟩ := h; rfl) | (obtain ⟨_, _, _, _, _, _, rfl, _⟩ := h; rfl)
theorem len__law_hand : ∀ ts R, S__law_hand ts R → ts.length = 1 := by
  intro ts R h
  first | (obtain ⟨_, rfl, _⟩ := h; rfl) | (obtain ⟨_, _, rfl, _⟩ := h; rfl) | (obtain ⟨_, _, _, rfl, _⟩ := h; rfl) | (obtain ⟨_, _, _, _, rfl, _⟩ := h; rfl) | (obtain ⟨_, _, _, _, _, rfl, _⟩ := h; rfl) | (obtain ⟨_, _, _, _, _, _, rfl, _⟩ := h; rfl)
theorem len__law_draw : ∀ ts R, S__law_draw ts R → ts.length = 2 := by
  intro ts R h
  first | (obtain ⟨_, rfl, _⟩ := h; rfl) | (obtain ⟨_, _, rfl, _⟩ := h; rfl) | (obtain ⟨_, _, _, rfl, _⟩ := h; rfl) | (obtain ⟨_, _, _, _, rfl, _⟩ := h; rfl) | (obtain ⟨_, _, _, _, _, rfl, _⟩ := h; rfl) | (obtain ⟨_, _, _, _, _, _, rfl, _⟩ := h; rfl)
theorem len__law_rows : ∀ ts R, S__law_rows ts R → ts.length = 1 := by
  intro ts R h
  first | (obtain ⟨_, rfl, _⟩ := h; rfl) | (obtain ⟨_, _, rfl, _⟩ := h; rfl) | (obtain ⟨_, _, _, rfl, _⟩ := h; rfl) | (obtain ⟨_, _, _, _, rfl, _⟩ := h; rfl) | (obtain ⟨_, _, _, _, _, rfl, _⟩ := h; rfl) | (obtain ⟨_, _, _, _, _, _, rfl, _⟩ := h; rfl)
theorem len__law_sizes : ∀ ts R, S__law_sizes ts R → ts.length = 1 := by
  intro ts R h
  first | (obtain ⟨_, rfl, _⟩ := h; rfl) | (obtain ⟨_, _, rfl, _⟩ := h; rfl) | (obtain ⟨_, _, _, rfl, _⟩ := h; rfl) | (obtain ⟨_, _, _, _, rfl, _⟩ := h; rfl) | (obtain ⟨_, _, _, _, _, rfl, _⟩ := h; rfl) | (obtain ⟨_, _, _, _, _, _, rfl, _⟩ := h; rfl)
theorem len__law_entry : ∀ ts R, S__law_entry ts R → ts.length = 2 := by
  intro ts R h
  first | (obtain ⟨_, rfl, _⟩ := h; rfl) | (obtain ⟨_, _, rfl, _⟩ := h; rfl) | (obtain ⟨_, _, _, rfl, _⟩ := h; rfl) | (obtain ⟨_, _, _, _, rfl, _⟩ := h; rfl) | (obtain ⟨_, _, _, _, _, rfl, _⟩ := h; rfl) | (obtain ⟨_, _, _, _, _, _, rfl, _⟩ := h; rfl)
theorem len__law_region : ∀ ts R, S__law_region ts R → ts.length = 2 := by
  intro ts R h
  first | (obtain ⟨_, rfl, _⟩ := h; rfl) | (obtain ⟨_, _, rfl, _⟩ := h; rfl) | (obtain ⟨_, _, _, rfl, _⟩ := h; rfl) | (obtain ⟨_, _, _, _, rfl, _⟩ := h; rfl) | (obtain ⟨_, _, _, _, _, rfl, _⟩ := h; rfl) | (obtain ⟨_, _, _, _, _, _, rfl, _⟩ := h; rfl)
theorem len__law_holds : ∀ ts R, S__law_holds ts R → ts.length = 2 := by
  intro ts R h
  first | (obtain ⟨_, rfl, _⟩ := h; rfl) | (obtain ⟨_, _, rfl, _⟩ := h; rfl) | (obtain ⟨_, _, _, rfl, _⟩ := h; rfl) | (obtain ⟨_, _, _, _, rfl, _⟩ := h; rfl) | (obtain ⟨_, _, _, _, _, rfl, _⟩ := h; rfl) | (obtain ⟨_, _, _, _, _, _, rfl, _⟩ := h; rfl)
theorem len__law_boxes (m : Nat) : ∀ ts R, S__law_boxes m ts R → ts.length = 2 := by
  intro ts R h
  first | (obtain ⟨_, rfl, _⟩ := h; rfl) | (obtain ⟨_, _, rfl, _⟩ := h; rfl) | (obtain ⟨_, _, _, rfl, _⟩ := h; rfl) | (obtain ⟨_, _, _, _, rfl, _⟩ := h; rfl) | (obtain ⟨_, _, _, _, _, rfl, _⟩ := h; rfl) | (obtain ⟨_, _, _, _, _, _, rfl, _⟩ := h; rfl)
theorem len__law_differs : ∀ ts R, S__law_differs ts R → ts.length = 4 := by
  intro ts R h
  first | (obtain ⟨_, rfl, _⟩ := h; rfl) | (obtain ⟨_, _, rfl, _⟩ := h; rfl) | (obtain ⟨_, _, _, rfl, _⟩ := h; rfl) | (obtain ⟨_, _, _, _, rfl, _⟩ := h; rfl) | (obtain ⟨_, _, _, _, _, rfl, _⟩ := h; rfl) | (obtain ⟨_, _, _, _, _, _, rfl, _⟩ := h; rfl)
theorem len__law_known : ∀ ts R, S__law_known ts R → ts.length = 1 := by
  intro ts R h
  first | (obtain ⟨_, rfl, _⟩ := h; rfl) | (obtain ⟨_, _, rfl, _⟩ := h; rfl) | (obtain ⟨_, _, _, rfl, _⟩ := h; rfl) | (obtain ⟨_, _, _, _, rfl, _⟩ := h; rfl) | (obtain ⟨_, _, _, _, _, rfl, _⟩ := h; rfl) | (obtain ⟨_, _, _, _, _, _, rfl, _⟩ := h; rfl)
theorem len__law_seen : ∀ ts R, S__law_seen ts R → ts.length = 2 := by
  intro ts R h
  first | (obtain ⟨_, rfl, _⟩ := h; rfl) | (obtain ⟨_, _, rfl, _⟩ := h; rfl) | (obtain ⟨_, _, _, rfl, _⟩ := h; rfl) | (obtain ⟨_, _, _, _, rfl, _⟩ := h; rfl) | (obtain ⟨_, _, _, _, _, rfl, _⟩ := h; rfl) | (obtain ⟨_, _, _, _, _, _, rfl, _⟩ := h; rfl)
theorem len__law_picked : ∀ ts R, S__law_picked ts R → ts.length = 2 := by
  intro ts R h
  first | (obtain ⟨_, rfl, _⟩ := h; rfl) | (obtain ⟨_, _, rfl, _⟩ := h; rfl) | (obtain ⟨_, _, _, rfl, _⟩ := h; rfl) | (obtain ⟨_, _, _, _, rfl, _⟩ := h; rfl) | (obtain ⟨_, _, _, _, _, rfl, _⟩ := h; rfl) | (obtain ⟨_, _, _, _, _, _, rfl, _⟩ := h; rfl)
theorem len__law_second : ∀ ts R, S__law_second ts R → ts.length = 4 := by
  intro ts R h
  first | (obtain ⟨_, rfl, _⟩ := h; rfl) | (obtain ⟨_, _, rfl, _⟩ := h; rfl) | (obtain ⟨_, _, _, rfl, _⟩ := h; rfl) | (obtain ⟨_, _, _, _, rfl, _⟩ := h; rfl) | (obtain ⟨_, _, _, _, _, rfl, _⟩ := h; rfl) | (obtain ⟨_, _, _, _, _, _, rfl, _⟩ := h; rfl)
theorem len__law_mixed : ∀ ts R, S__law_mixed ts R → ts.length = 2 := by
  intro ts R h
  first | (obtain ⟨_, rfl, _⟩ := h; rfl) | (obtain ⟨_, _, rfl, _⟩ := h; rfl) | (obtain ⟨_, _, _, rfl, _⟩ := h; rfl) | (obtain ⟨_, _, _, _, rfl, _⟩ := h; rfl) | (obtain ⟨_, _, _, _, _, rfl, _⟩ := h; rfl) | (obtain ⟨_, _, _, _, _, _, rfl, _⟩ := h; rfl)
theorem len__law_is_number : ∀ ts R, S__law_is_number ts R → ts.length = 1 := by
  intro ts R h
  first | (obtain ⟨_, rfl, _⟩ := h; rfl) | (obtain ⟨_, _, rfl, _⟩ := h; rfl) | (obtain ⟨_, _, _, rfl, _⟩ := h; rfl) | (obtain ⟨_, _, _, _, rfl, _⟩ := h; rfl) | (obtain ⟨_, _, _, _, _, rfl, _⟩ := h; rfl) | (obtain ⟨_, _, _, _, _, _, rfl, _⟩ := h; rfl)
theorem len__law_are_numbers : ∀ ts R, S__law_are_numbers ts R → ts.length = 1 := by
  intro ts R h
  first | (obtain ⟨_, rfl, _⟩ := h; rfl) | (obtain ⟨_, _, rfl, _⟩ := h; rfl) | (obtain ⟨_, _, _, rfl, _⟩ := h; rfl) | (obtain ⟨_, _, _, _, rfl, _⟩ := h; rfl) | (obtain ⟨_, _, _, _, _, rfl, _⟩ := h; rfl) | (obtain ⟨_, _, _, _, _, _, rfl, _⟩ := h; rfl)
theorem len__law_are_states : ∀ ts R, S__law_are_states ts R → ts.length = 1 := by
  intro ts R h
  first | (obtain ⟨_, rfl, _⟩ := h; rfl) | (obtain ⟨_, _, rfl, _⟩ := h; rfl) | (obtain ⟨_, _, _, rfl, _⟩ := h; rfl) | (obtain ⟨_, _, _, _, rfl, _⟩ := h; rfl) | (obtain ⟨_, _, _, _, _, rfl, _⟩ := h; rfl) | (obtain ⟨_, _, _, _, _, _, rfl, _⟩ := h; rfl)
theorem len__law_are_boxes : ∀ ts R, S__law_are_boxes ts R → ts.length = 1 := by
  intro ts R h
  first | (obtain ⟨_, rfl, _⟩ := h; rfl) | (obtain ⟨_, _, rfl, _⟩ := h; rfl) | (obtain ⟨_, _, _, rfl, _⟩ := h; rfl) | (obtain ⟨_, _, _, _, rfl, _⟩ := h; rfl) | (obtain ⟨_, _, _, _, _, rfl, _⟩ := h; rfl) | (obtain ⟨_, _, _, _, _, _, rfl, _⟩ := h; rfl)
theorem len__law_states_told : ∀ ts R, S__law_states_told ts R → ts.length = 2 := by
  intro ts R h
  first | (obtain ⟨_, rfl, _⟩ := h; rfl) | (obtain ⟨_, _, rfl, _⟩ := h; rfl) | (obtain ⟨_, _, _, rfl, _⟩ := h; rfl) | (obtain ⟨_, _, _, _, rfl, _⟩ := h; rfl) | (obtain ⟨_, _, _, _, _, rfl, _⟩ := h; rfl) | (obtain ⟨_, _, _, _, _, _, rfl, _⟩ := h; rfl)
theorem len__law_boxes_told : ∀ ts R, S__law_boxes_told ts R → ts.length = 3 := by
  intro ts R h
  first | (obtain ⟨_, rfl, _⟩ := h; rfl) | (obtain ⟨_, _, rfl, _⟩ := h; rfl) | (obtain ⟨_, _, _, rfl, _⟩ := h; rfl) | (obtain ⟨_, _, _, _, rfl, _⟩ := h; rfl) | (obtain ⟨_, _, _, _, _, rfl, _⟩ := h; rfl) | (obtain ⟨_, _, _, _, _, _, rfl, _⟩ := h; rfl)
theorem len__law_seen_told : ∀ ts R, S__law_seen_told ts R → ts.length = 3 := by
  intro ts R h
  first | (obtain ⟨_, rfl, _⟩ := h; rfl) | (obtain ⟨_, _, rfl, _⟩ := h; rfl) | (obtain ⟨_, _, _, rfl, _⟩ := h; rfl) | (obtain ⟨_, _, _, _, rfl, _⟩ := h; rfl) | (obtain ⟨_, _, _, _, _, rfl, _⟩ := h; rfl) | (obtain ⟨_, _, _, _, _, _, rfl, _⟩ := h; rfl)
theorem len__law_inside_told : ∀ ts R, S__law_inside_told ts R → ts.length = 4 := by
  intro ts R h
  first | (obtain ⟨_, rfl, _⟩ := h; rfl) | (obtain ⟨_, _, rfl, _⟩ := h; rfl) | (obtain ⟨_, _, _, rfl, _⟩ := h; rfl) | (obtain ⟨_, _, _, _, rfl, _⟩ := h; rfl) | (obtain ⟨_, _, _, _, _, rfl, _⟩ := h; rfl) | (obtain ⟨_, _, _, _, _, _, rfl, _⟩ := h; rfl)
theorem len_law : ∀ ts R, S_law ts R → ts.length = 1 := by
  intro ts R h
  first | (obtain ⟨_, rfl, _⟩ := h; rfl) | (obtain ⟨_, _, rfl, _⟩ := h; rfl) | (obtain ⟨_, _, _, rfl, _⟩ := h; rfl) | (obtain ⟨_, _, _, _, rfl, _⟩ := h; rfl) | (obtain ⟨_, _, _, _, _, rfl, _⟩ := h; rfl) | (obtain ⟨_, _, _, _, _, _, rfl, _⟩ := h; rfl)
def spLaw (K : PySem.W.Frag) : Sp := fun vs H Q _ => ∃ (a : Addr) (ns : List Int), vs = [.ref a] ∧ ns.length ≤ 63 ∧ SqL K H a (ns.map V.int) ∧ ∀ H', Q (.bl true) H'
theorem spLaw_imp {P : Program} {w : World} {K : PySem.W.Frag} (vs : List V) (H : Hp) (Q : VK) (E : XK) (h : spLaw K vs H Q E) : spT ⟨P, w, K⟩ S_law vs H Q E := by
  obtain ⟨a, ns, rfl, hl, hS, hQ⟩ := h
  refine ⟨H, [.scr ns], Fr.nil, fun r _ => r = .dat (.bool true), ⟨Evl.Ex.refl _, ⟨⟨_, _, rfl, ⟨a, rfl, hS⟩, rfl⟩, True.intro⟩, List.nodup_nil, fun _ h => nomatch h⟩, ⟨ns, rfl, hl, rfl⟩, fun v H' Fz' ar ats' hr _ hh => ?_⟩
  have hr : ar.er = .dat (.bool true) := hr
  have hr := er_dat hr
  subst hr
  cases (show Dv K Fz' v (.bool true) from hh.ok.2.2)
  exact hQ H'
set_option maxHeartbeats 0 in
theorem facts {P : Program} {w : World} {K : PySem.W.Frag} {h : Heap} {mg : Str → Option Value} {f : Addr} (X : K.In h) (G : h.Ns mainGlobals mg) (hfa : mg ("law" : Str) = some (.ref f)) (c : He.SaysD fa fn K) :
    ∃ fd : FuncData, (∀ (s : Shared) (v : Value), BindsTo s fd ⟨[v], []⟩ [("script", v)]) ∧ ∀ base : Heap, K.In base → base.Ns mainGlobals mg → FnOk P w K mg base CX0 14 f fd ["script"] (spLaw K) := by
  obtain ⟨fd_boxes_of, F_boxes_of⟩ : ∃ fd, FnP K "boxes_of" "boxes_of" s_boxes_of (He.fAd K ("boxes_of", none)) fd := c.def_ 0 (d := d_boxes_of) rfl
  obtain ⟨fd_states_of, F_states_of⟩ : ∃ fd, FnP K "states_of" "states_of" s_states_of (He.fAd K ("states_of", none)) fd := c.def_ 1 (d := d_states_of) rfl
  obtain ⟨fd_inside, F_inside⟩ : ∃ fd, FnP K "inside" "inside" s_inside (He.fAd K ("inside", none)) fd := c.def_ 2 (d := d_inside) rfl
  obtain ⟨fd_seen_by, F_seen_by⟩ : ∃ fd, FnP K "seen_by" "seen_by" s_seen_by (He.fAd K ("seen_by", none)) fd := c.def_ 3 (d := d_seen_by) rfl
  obtain ⟨fd__in_box, F__in_box⟩ : ∃ fd, FnP K "_in_box" "_in_box" s__in_box (He.fAd K ("_in_box", none)) fd := c.def_ 4 (d := d__in_box) rfl
  obtain ⟨fd__joined, F__joined⟩ : ∃ fd, FnP K "_joined" "_joined" s__joined (He.fAd K ("_joined", none)) fd := c.def_ 5 (d := d__joined) rfl
  obtain ⟨fd__is_seen, F__is_seen⟩ : ∃ fd, FnP K "_is_seen" "_is_seen" s__is_seen (He.fAd K ("_is_seen", none)) fd := c.def_ 6 (d := d__is_seen) rfl
  obtain ⟨fd__law_cell, F__law_cell⟩ : ∃ fd, FnP K "_law_cell" "_law_cell" s__law_cell (He.fAd K ("_law_cell", none)) fd := c.def_ 7 (d := d__law_cell) rfl
  obtain ⟨fd__law_hand, F__law_hand⟩ : ∃ fd, FnP K "_law_hand" "_law_hand" s__law_hand (He.fAd K ("_law_hand", none)) fd := c.def_ 8 (d := d__law_hand) rfl
  obtain ⟨fd__law_draw, F__law_draw⟩ : ∃ fd, FnP K "_law_draw" "_law_draw" s__law_draw (He.fAd K ("_law_draw", none)) fd := c.def_ 9 (d := d__law_draw) rfl
  obtain ⟨fd__law_rows, F__law_rows⟩ : ∃ fd, FnP K "_law_rows" "_law_rows" s__law_rows (He.fAd K ("_law_rows", none)) fd := c.def_ 10 (d := d__law_rows) rfl
  obtain ⟨fd__law_sizes, F__law_sizes⟩ : ∃ fd, FnP K "_law_sizes" "_law_sizes" s__law_sizes (He.fAd K ("_law_sizes", none)) fd := c.def_ 11 (d := d__law_sizes) rfl
  obtain ⟨fd__law_entry, F__law_entry⟩ : ∃ fd, FnP K "_law_entry" "_law_entry" s__law_entry (He.fAd K ("_law_entry", none)) fd := c.def_ 12 (d := d__law_entry) rfl
  obtain ⟨fd__law_region, F__law_region⟩ : ∃ fd, FnP K "_law_region" "_law_region" s__law_region (He.fAd K ("_law_region", none)) fd := c.def_ 13 (d := d__law_region) rfl
  obtain ⟨fd__law_holds, F__law_holds⟩ : ∃ fd, FnP K "_law_holds" "_law_holds" s__law_holds (He.fAd K ("_law_holds", none)) fd := c.def_ 14 (d := d__law_holds) rfl
  obtain ⟨fd__law_boxes, F__law_boxes⟩ : ∃ fd, FnP K "_law_boxes" "_law_boxes" s__law_boxes (He.fAd K ("_law_boxes", none)) fd := c.def_ 15 (d := d__law_boxes) rfl
  obtain ⟨fd__law_differs, F__law_differs⟩ : ∃ fd, FnP K "_law_differs" "_law_differs" s__law_differs (He.fAd K ("_law_differs", none)) fd := c.def_ 16 (d := d__law_differs) rfl
  obtain ⟨fd__law_known, F__law_known⟩ : ∃ fd, FnP K "_law_known" "_law_known" s__law_known (He.fAd K ("_law_known", none)) fd := c.def_ 17 (d := d__law_known) rfl
  obtain ⟨fd__law_seen, F__law_seen⟩ : ∃ fd, FnP K "_law_seen" "_law_seen" s__law_seen (He.fAd K ("_law_seen", none)) fd := c.def_ 18 (d := d__law_seen) rfl
  obtain ⟨fd__law_picked, F__law_picked⟩ : ∃ fd, FnP K "_law_picked" "_law_picked" s__law_picked (He.fAd K ("_law_picked", none)) fd := c.def_ 19 (d := d__law_picked) rfl
  obtain ⟨fd__law_second, F__law_second⟩ : ∃ fd, FnP K "_law_second" "_law_second" s__law_second (He.fAd K ("_law_second", none)) fd := c.def_ 20 (d := d__law_second) rfl
  obtain ⟨fd__law_mixed, F__law_mixed⟩ : ∃ fd, FnP K "_law_mixed" "_law_mixed" s__law_mixed (He.fAd K ("_law_mixed", none)) fd := c.def_ 21 (d := d__law_mixed) rfl
  obtain ⟨fd__law_is_number, F__law_is_number⟩ : ∃ fd, FnP K "_law_is_number" "_law_is_number" s__law_is_number (He.fAd K ("_law_is_number", none)) fd := c.def_ 22 (d := d__law_is_number) rfl
  obtain ⟨fd__law_are_numbers, F__law_are_numbers⟩ : ∃ fd, FnP K "_law_are_numbers" "_law_are_numbers" s__law_are_numbers (He.fAd K ("_law_are_numbers", none)) fd := c.def_ 23 (d := d__law_are_numbers) rfl
  obtain ⟨fd__law_are_states, F__law_are_states⟩ : ∃ fd, FnP K "_law_are_states" "_law_are_states" s__law_are_states (He.fAd K ("_law_are_states", none)) fd := c.def_ 24 (d := d__law_are_states) rfl
  obtain ⟨fd__law_are_boxes, F__law_are_boxes⟩ : ∃ fd, FnP K "_law_are_boxes" "_law_are_boxes" s__law_are_boxes (He.fAd K ("_law_are_boxes", none)) fd := c.def_ 25 (d := d__law_are_boxes) rfl
  obtain ⟨fd__law_states_told, F__law_states_told⟩ : ∃ fd, FnP K "_law_states_told" "_law_states_told" s__law_states_told (He.fAd K ("_law_states_told", none)) fd := c.def_ 26 (d := d__law_states_told) rfl
  obtain ⟨fd__law_boxes_told, F__law_boxes_told⟩ : ∃ fd, FnP K "_law_boxes_told" "_law_boxes_told" s__law_boxes_told (He.fAd K ("_law_boxes_told", none)) fd := c.def_ 27 (d := d__law_boxes_told) rfl
  obtain ⟨fd__law_seen_told, F__law_seen_told⟩ : ∃ fd, FnP K "_law_seen_told" "_law_seen_told" s__law_seen_told (He.fAd K ("_law_seen_told", none)) fd := c.def_ 28 (d := d__law_seen_told) rfl
  obtain ⟨fd__law_inside_told, F__law_inside_told⟩ : ∃ fd, FnP K "_law_inside_told" "_law_inside_told" s__law_inside_told (He.fAd K ("_law_inside_told", none)) fd := c.def_ 29 (d := d__law_inside_told) rfl
  obtain ⟨fd_law, F_law⟩ : ∃ fd, FnP K "law" "law" s_law (He.fAd K ("law", none)) fd := c.def_ 30 (d := d_law) rfl
  have g_boxes_of : mg "boxes_of" = _ := He.glo_ok X G (c.fact 0 (f := .glo "boxes_of") rfl)
  have g_states_of : mg "states_of" = _ := He.glo_ok X G (c.fact 1 (f := .glo "states_of") rfl)
  have g_inside : mg "inside" = _ := He.glo_ok X G (c.fact 2 (f := .glo "inside") rfl)
  have g_seen_by : mg "seen_by" = _ := He.glo_ok X G (c.fact 3 (f := .glo "seen_by") rfl)
  have g__in_box : mg "_in_box" = _ := He.glo_ok X G (c.fact 4 (f := .glo "_in_box") rfl)
  have g__joined : mg "_joined" = _ := He.glo_ok X G (c.fact 5 (f := .glo "_joined") rfl)
  have g__is_seen : mg "_is_seen" = _ := He.glo_ok X G (c.fact 6 (f := .glo "_is_seen") rfl)
  have g__law_cell : mg "_law_cell" = _ := He.glo_ok X G (c.fact 7 (f := .glo "_law_cell") rfl)
  have g__law_hand : mg "_law_hand" = _ := He.glo_ok X G (c.fact 8 (f := .glo "_law_hand") rfl)
  have g__law_draw : mg "_law_draw" = _ := He.glo_ok X G (c.fact 9 (f := .glo "_law_draw") rfl)
  have g__law_rows : mg "_law_rows" = _ := He.glo_ok X G (c.fact 10 (f := .glo "_law_rows") rfl)
  have g__law_sizes : mg "_law_sizes" = _ := He.glo_ok X G (c.fact 11 (f := .glo "_law_sizes") rfl)
  have g__law_entry : mg "_law_entry" = _ := He.glo_ok X G (c.fact 12 (f := .glo "_law_entry") rfl)
  have g__law_region : mg "_law_region" = _ := He.glo_ok X G (c.fact 13 (f := .glo "_law_region") rfl)
  have g__law_holds : mg "_law_holds" = _ := He.glo_ok X G (c.fact 14 (f := .glo "_law_holds") rfl)
  have g__law_boxes : mg "_law_boxes" = _ := He.glo_ok X G (c.fact 15 (f := .glo "_law_boxes") rfl)
  have g__law_differs : mg "_law_differs" = _ := He.glo_ok X G (c.fact 16 (f := .glo "_law_differs") rfl)
  have g__law_known : mg "_law_known" = _ := He.glo_ok X G (c.fact 17 (f := .glo "_law_known") rfl)
  have g__law_seen : mg "_law_seen" = _ := He.glo_ok X G (c.fact 18 (f := .glo "_law_seen") rfl)
  have g__law_picked : mg "_law_picked" = _ := He.glo_ok X G (c.fact 19 (f := .glo "_law_picked") rfl)
  have g__law_second : mg "_law_second" = _ := He.glo_ok X G (c.fact 20 (f := .glo "_law_second") rfl)
  have g__law_mixed : mg "_law_mixed" = _ := He.glo_ok X G (c.fact 21 (f := .glo "_law_mixed") rfl)
  have g__law_is_number : mg "_law_is_number" = _ := He.glo_ok X G (c.fact 22 (f := .glo "_law_is_number") rfl)
  have g__law_are_numbers : mg "_law_are_numbers" = _ := He.glo_ok X G (c.fact 23 (f := .glo "_law_are_numbers") rfl)
  have g__law_are_states : mg "_law_are_states" = _ := He.glo_ok X G (c.fact 24 (f := .glo "_law_are_states") rfl)
  have g__law_are_boxes : mg "_law_are_boxes" = _ := He.glo_ok X G (c.fact 25 (f := .glo "_law_are_boxes") rfl)
  have g__law_states_told : mg "_law_states_told" = _ := He.glo_ok X G (c.fact 26 (f := .glo "_law_states_told") rfl)
  have g__law_boxes_told : mg "_law_boxes_told" = _ := He.glo_ok X G (c.fact 27 (f := .glo "_law_boxes_told") rfl)
  have g__law_seen_told : mg "_law_seen_told" = _ := He.glo_ok X G (c.fact 28 (f := .glo "_law_seen_told") rfl)
  have g__law_inside_told : mg "_law_inside_told" = _ := He.glo_ok X G (c.fact 29 (f := .glo "_law_inside_told") rfl)
  have g_law : mg "law" = _ := He.glo_ok X G (c.fact 30 (f := .glo "law") rfl)
  have m_bool : mg "bool" = none := He.free_ok X G (c.fact 31 (f := .free "bool") rfl)
  have m_enumerate : mg "enumerate" = none := He.free_ok X G (c.fact 32 (f := .free "enumerate") rfl)
  have m_int : mg "int" = none := He.free_ok X G (c.fact 33 (f := .free "int") rfl)
  have m_isinstance : mg "isinstance" = none := He.free_ok X G (c.fact 34 (f := .free "isinstance") rfl)
  have m_len : mg "len" = none := He.free_ok X G (c.fact 35 (f := .free "len") rfl)
  have m_list : mg "list" = none := He.free_ok X G (c.fact 36 (f := .free "list") rfl)
  have m_range : mg "range" = none := He.free_ok X G (c.fact 37 (f := .free "range") rfl)
  have m_sorted : mg "sorted" = none := He.free_ok X G (c.fact 38 (f := .free "sorted") rfl)
  have m_tuple : mg "tuple" = none := He.free_ok X G (c.fact 39 (f := .free "tuple") rfl)
  have m_zip : mg "zip" = none := He.free_ok X G (c.fact 40 (f := .free "zip") rfl)
  have e := hfa.symm.trans g_law
  cases e
  have bl := FunD.bindsA (ps := ["script"]) F_law fun _ _ _ _ _ _ us hl => match us, hl with | [_], _ => rfl
  refine ⟨fd_law, fun s v => bl s [v] rfl, fun base _ _ => ?_⟩
  have b__joined : Binds K fd__joined ["boxes"] [] := F__joined.bindsN fun _ _ _ _ _ _ us hl => match us, hl with | [_], _ => rfl
  have H__joined : ∀ m, m ≤ 9 → Has P w K mg base (1 + m) "_joined" (S__joined m) := by
    intro m
    induction m with
    | zero => exact fun _ => has_none F__joined g__joined b__joined fun ts R h => by obtain ⟨n, _, h⟩ := h; first | (obtain ⟨h, _⟩ := h; exact absurd h (Nat.not_lt_zero _)) | (obtain ⟨_, h, _⟩ := h; exact absurd h (Nat.not_lt_zero _))
    | succ m ih =>
      intro hm
      have ih := ih (by omega)
      exact has_of F__joined sc__joined g__joined b__joined (len__joined _) fun cdv A outer s H E hr => ⟨w__joined m, t__joined m_len m_list m_sorted m_tuple ih hr, p_joined m (by omega)⟩
  have H__joined := H__joined 9 (Nat.le_refl _)
  have b_boxes_of : Binds K fd_boxes_of ["sizes", "states"] [] := F_boxes_of.bindsN fun _ _ _ _ _ _ us hl => match us, hl with | [_, _], _ => rfl
  have H_boxes_of : Has P w K mg base 11 "boxes_of" S_boxes_of := has_of (k := 10) F_boxes_of sc_boxes_of g_boxes_of b_boxes_of len_boxes_of fun cdv A outer s H E hr => ⟨_, t_boxes_of m_tuple (has_mono (k := 10) H__joined (by decide)) hr, p_boxes_of⟩
  have b_states_of : Binds K fd_states_of ["boxes"] [] := F_states_of.bindsN fun _ _ _ _ _ _ us hl => match us, hl with | [_], _ => rfl
  have H_states_of : Has P w K mg base 1 "states_of" S_states_of := has_of (k := 0) F_states_of sc_states_of g_states_of b_states_of len_states_of fun cdv A outer s H E hr => ⟨_, t_states_of m_sorted hr, p_states_of⟩
  have b__in_box : Binds K fd__in_box ["box", "state"] [] := F__in_box.bindsN fun _ _ _ _ _ _ us hl => match us, hl with | [_, _], _ => rfl
  have H__in_box : Has P w K mg base 1 "_in_box" S__in_box := has_of (k := 0) F__in_box sc__in_box g__in_box b__in_box len__in_box fun cdv A outer s H E hr => ⟨_, t__in_box m_zip hr, p_in_box⟩
  have b_inside : Binds K fd_inside ["boxes", "state"] [] := F_inside.bindsN fun _ _ _ _ _ _ us hl => match us, hl with | [_, _], _ => rfl
  have H_inside : Has P w K mg base 2 "inside" S_inside := has_of (k := 1) F_inside sc_inside g_inside b_inside len_inside fun cdv A outer s H E hr => ⟨_, t_inside (has_mono (k := 1) H__in_box (by decide)) hr, p_inside⟩
  have b__is_seen : Binds K fd__is_seen ["size", "boxes", "place"] [] := F__is_seen.bindsN fun _ _ _ _ _ _ us hl => match us, hl with | [_, _, _], _ => rfl
  have H__is_seen : Has P w K mg base 11 "_is_seen" S__is_seen := has_of (k := 10) F__is_seen sc__is_seen g__is_seen b__is_seen len__is_seen fun cdv A outer s H E hr => ⟨_, t__is_seen m_len m_list m_range m_tuple (has_mono (k := 10) H__joined (by decide)) hr, p_is_seen⟩
  have b_seen_by : Binds K fd_seen_by ["sizes", "boxes"] [] := F_seen_by.bindsN fun _ _ _ _ _ _ us hl => match us, hl with | [_, _], _ => rfl
  have H_seen_by : Has P w K mg base 12 "seen_by" S_seen_by := has_of (k := 11) F_seen_by sc_seen_by g_seen_by b_seen_by len_seen_by fun cdv A outer s H E hr => ⟨_, t_seen_by m_enumerate (has_mono (k := 11) H__is_seen (by decide)) hr, p_seen_by⟩
  have b__law_cell : Binds K fd__law_cell ["number"] [] := F__law_cell.bindsN fun _ _ _ _ _ _ us hl => match us, hl with | [_], _ => rfl
  have H__law_cell : Has P w K mg base 1 "_law_cell" S__law_cell := has_of (k := 0) F__law_cell sc__law_cell g__law_cell b__law_cell len__law_cell fun cdv A outer s H E hr => ⟨_, t__law_cell m_int hr, p_cell⟩
  have b__law_hand : Binds K fd__law_hand ["script"] [] := F__law_hand.bindsN fun _ _ _ _ _ _ us hl => match us, hl with | [_], _ => rfl
  have H__law_hand : Has P w K mg base 2 "_law_hand" S__law_hand := has_of (k := 1) F__law_hand sc__law_hand g__law_hand b__law_hand len__law_hand fun cdv A outer s H E hr => ⟨_, t__law_hand (has_mono (k := 1) H__law_cell (by decide)) hr, p_hand⟩
  have b__law_draw : Binds K fd__law_draw ["hand", "many"] [] := F__law_draw.bindsN fun _ _ _ _ _ _ us hl => match us, hl with | [_, _], _ => rfl
  have H__law_draw : Has P w K mg base 1 "_law_draw" S__law_draw := has_of (k := 0) F__law_draw sc__law_draw g__law_draw b__law_draw len__law_draw fun cdv A outer s H E hr => ⟨_, t__law_draw m_int m_len hr, p_draw⟩
  have b__law_rows : Binds K fd__law_rows ["sizes"] [] := F__law_rows.bindsN fun _ _ _ _ _ _ us hl => match us, hl with | [_], _ => rfl
  have H__law_rows : Has P w K mg base 1 "_law_rows" S__law_rows := has_of (k := 0) F__law_rows sc__law_rows g__law_rows b__law_rows len__law_rows fun cdv A outer s H E hr => ⟨_, t__law_rows m_range hr, p_rows⟩
  have b__law_sizes : Binds K fd__law_sizes ["hand"] [] := F__law_sizes.bindsN fun _ _ _ _ _ _ us hl => match us, hl with | [_], _ => rfl
  have H__law_sizes : Has P w K mg base 2 "_law_sizes" S__law_sizes := has_of (k := 1) F__law_sizes sc__law_sizes g__law_sizes b__law_sizes len__law_sizes fun cdv A outer s H E hr => ⟨_, t__law_sizes m_range m_tuple (has_mono (k := 1) H__law_draw (by decide)) hr, p_sizes⟩
  have b__law_entry : Binds K fd__law_entry ["hand", "size"] [] := F__law_entry.bindsN fun _ _ _ _ _ _ us hl => match us, hl with | [_, _], _ => rfl
  have H__law_entry : Has P w K mg base 2 "_law_entry" S__law_entry := has_of (k := 1) F__law_entry sc__law_entry g__law_entry b__law_entry len__law_entry fun cdv A outer s H E hr => ⟨_, t__law_entry m_range m_tuple (has_mono (k := 1) H__law_draw (by decide)) hr, p_entry⟩
  have b__law_region : Binds K fd__law_region ["hand", "sizes"] [] := F__law_region.bindsN fun _ _ _ _ _ _ us hl => match us, hl with | [_, _], _ => rfl
  have H__law_region : Has P w K mg base 3 "_law_region" S__law_region := has_of (k := 2) F__law_region sc__law_region g__law_region b__law_region len__law_region fun cdv A outer s H E hr => ⟨_, t__law_region m_range m_tuple (has_mono (k := 2) H__law_draw (by decide)) (has_mono (k := 2) H__law_entry (by decide)) hr, p_region⟩
  have b__law_holds : Binds K fd__law_holds ["boxes", "state"] [] := F__law_holds.bindsN fun _ _ _ _ _ _ us hl => match us, hl with | [_, _], _ => rfl
  have H__law_holds : Has P w K mg base 1 "_law_holds" S__law_holds := has_of (k := 0) F__law_holds sc__law_holds g__law_holds b__law_holds len__law_holds fun cdv A outer s H E hr => ⟨_, t__law_holds m_len m_range hr, p_holds⟩
  have b__law_boxes : Binds K fd__law_boxes ["states", "many"] [] := F__law_boxes.bindsN fun _ _ _ _ _ _ us hl => match us, hl with | [_, _], _ => rfl
  have H__law_boxes : ∀ m, m ≤ 9 → Has P w K mg base (1 + m) "_law_boxes" (S__law_boxes m) := by
    intro m
    induction m with
    | zero => exact fun _ => has_none F__law_boxes g__law_boxes b__law_boxes fun ts R h => by obtain ⟨n, _, h⟩ := h; first | (obtain ⟨h, _⟩ := h; exact absurd h (Nat.not_lt_zero _)) | (obtain ⟨_, h, _⟩ := h; exact absurd h (Nat.not_lt_zero _))
    | succ m ih =>
      intro hm
      have ih := ih (by omega)
      exact has_of F__law_boxes sc__law_boxes g__law_boxes b__law_boxes (len__law_boxes _) fun cdv A outer s H E hr => ⟨w__law_boxes m, t__law_boxes m_len m_range m_tuple ih hr, p_lboxes m (by omega)⟩
  have H__law_boxes := H__law_boxes 9 (Nat.le_refl _)
  have b__law_differs : Binds K fd__law_differs ["sizes", "known", "states", "k"] [] := F__law_differs.bindsN fun _ _ _ _ _ _ us hl => match us, hl with | [_, _, _, _], _ => rfl
  have H__law_differs : Has P w K mg base 1 "_law_differs" S__law_differs := has_of (k := 0) F__law_differs sc__law_differs g__law_differs b__law_differs len__law_differs fun cdv A outer s H E hr => ⟨_, t__law_differs m_range hr, p_differs⟩
  have b__law_known : Binds K fd__law_known ["states"] [] := F__law_known.bindsN fun _ _ _ _ _ _ us hl => match us, hl with | [_], _ => rfl
  have H__law_known : Has P w K mg base 1 "_law_known" S__law_known := has_of (k := 0) F__law_known sc__law_known g__law_known b__law_known len__law_known fun cdv A outer s H E hr => ⟨_, t__law_known hr, p_known⟩
  have b__law_seen : Binds K fd__law_seen ["sizes", "states"] [] := F__law_seen.bindsN fun _ _ _ _ _ _ us hl => match us, hl with | [_, _], _ => rfl
  have H__law_seen : Has P w K mg base 2 "_law_seen" S__law_seen := has_of (k := 1) F__law_seen sc__law_seen g__law_seen b__law_seen len__law_seen fun cdv A outer s H E hr => ⟨_, t__law_seen m_len m_range (has_mono (k := 1) H__law_differs (by decide)) (has_mono (k := 1) H__law_known (by decide)) hr, p_seen⟩
  have b__law_picked : Binds K fd__law_picked ["hand", "rows"] [] := F__law_picked.bindsN fun _ _ _ _ _ _ us hl => match us, hl with | [_, _], _ => rfl
  have H__law_picked : Has P w K mg base 2 "_law_picked" S__law_picked := has_of (k := 1) F__law_picked sc__law_picked g__law_picked b__law_picked len__law_picked fun cdv A outer s H E hr => ⟨_, t__law_picked (has_mono (k := 1) H__law_draw (by decide)) hr, p_picked⟩
  have b__law_second : Binds K fd__law_second ["hand", "sizes", "every", "known"] [] := F__law_second.bindsN fun _ _ _ _ _ _ us hl => match us, hl with | [_, _, _, _], _ => rfl
  have H__law_second : Has P w K mg base 3 "_law_second" S__law_second := has_of (k := 2) F__law_second sc__law_second g__law_second b__law_second len__law_second fun cdv A outer s H E hr => ⟨_, t__law_second m_len m_range (has_mono (k := 2) H__law_draw (by decide)) (has_mono (k := 2) H__law_picked (by decide)) (has_mono (k := 2) H__law_rows (by decide)) hr, p_second⟩
  have b__law_mixed : Binds K fd__law_mixed ["hand", "states"] [] := F__law_mixed.bindsN fun _ _ _ _ _ _ us hl => match us, hl with | [_, _], _ => rfl
  have H__law_mixed : Has P w K mg base 2 "_law_mixed" S__law_mixed := has_of (k := 1) F__law_mixed sc__law_mixed g__law_mixed b__law_mixed len__law_mixed fun cdv A outer s H E hr => ⟨_, t__law_mixed m_len m_list (has_mono (k := 1) H__law_draw (by decide)) hr, p_mixed⟩
  have b__law_is_number : Binds K fd__law_is_number ["value"] [] := F__law_is_number.bindsN fun _ _ _ _ _ _ us hl => match us, hl with | [_], _ => rfl
  have H__law_is_number : Has P w K mg base 1 "_law_is_number" S__law_is_number := has_of (k := 0) F__law_is_number sc__law_is_number g__law_is_number b__law_is_number len__law_is_number fun cdv A outer s H E hr => ⟨_, t__law_is_number m_bool m_int m_isinstance hr, p_number⟩
  have b__law_are_numbers : Binds K fd__law_are_numbers ["value"] [] := F__law_are_numbers.bindsN fun _ _ _ _ _ _ us hl => match us, hl with | [_], _ => rfl
  have H__law_are_numbers : Has P w K mg base 2 "_law_are_numbers" S__law_are_numbers := has_of (k := 1) F__law_are_numbers sc__law_are_numbers g__law_are_numbers b__law_are_numbers len__law_are_numbers fun cdv A outer s H E hr => ⟨_, t__law_are_numbers m_isinstance m_tuple (has_mono (k := 1) H__law_is_number (by decide)) hr, p_numbers⟩
  have b__law_are_states : Binds K fd__law_are_states ["value"] [] := F__law_are_states.bindsN fun _ _ _ _ _ _ us hl => match us, hl with | [_], _ => rfl
  have H__law_are_states : Has P w K mg base 3 "_law_are_states" S__law_are_states := has_of (k := 2) F__law_are_states sc__law_are_states g__law_are_states b__law_are_states len__law_are_states fun cdv A outer s H E hr => ⟨_, t__law_are_states m_isinstance m_list (has_mono (k := 2) H__law_are_numbers (by decide)) hr, p_states⟩
  have b__law_are_boxes : Binds K fd__law_are_boxes ["value"] [] := F__law_are_boxes.bindsN fun _ _ _ _ _ _ us hl => match us, hl with | [_], _ => rfl
  have H__law_are_boxes : Has P w K mg base 3 "_law_are_boxes" S__law_are_boxes := has_of (k := 2) F__law_are_boxes sc__law_are_boxes g__law_are_boxes b__law_are_boxes len__law_are_boxes fun cdv A outer s H E hr => ⟨_, t__law_are_boxes m_isinstance m_list m_tuple (has_mono (k := 2) H__law_are_numbers (by decide)) hr, p_boxes⟩
  have b__law_states_told : Binds K fd__law_states_told ["boxes", "states"] [] := F__law_states_told.bindsN fun _ _ _ _ _ _ us hl => match us, hl with | [_, _], _ => rfl
  have H__law_states_told : Has P w K mg base 4 "_law_states_told" S__law_states_told := has_of (k := 3) F__law_states_told sc__law_states_told g__law_states_told b__law_states_told len__law_states_told fun cdv A outer s H E hr => ⟨_, t__law_states_told m_list (has_mono (k := 3) H__law_are_states (by decide)) (has_mono (k := 3) H_states_of (by decide)) hr, p_states_told⟩
  have b__law_boxes_told : Binds K fd__law_boxes_told ["sizes", "rows", "due"] [] := F__law_boxes_told.bindsN fun _ _ _ _ _ _ us hl => match us, hl with | [_, _, _], _ => rfl
  have H__law_boxes_told : Has P w K mg base 12 "_law_boxes_told" S__law_boxes_told := has_of (k := 11) F__law_boxes_told sc__law_boxes_told g__law_boxes_told b__law_boxes_told len__law_boxes_told fun cdv A outer s H E hr => ⟨_, t__law_boxes_told m_list (has_mono (k := 11) H__law_are_boxes (by decide)) (has_mono (k := 11) H_boxes_of (by decide)) hr, p_boxes_told⟩
  have b__law_seen_told : Binds K fd__law_seen_told ["sizes", "boxes", "due"] [] := F__law_seen_told.bindsN fun _ _ _ _ _ _ us hl => match us, hl with | [_, _, _], _ => rfl
  have H__law_seen_told : Has P w K mg base 13 "_law_seen_told" S__law_seen_told := has_of (k := 12) F__law_seen_told sc__law_seen_told g__law_seen_told b__law_seen_told len__law_seen_told fun cdv A outer s H E hr => ⟨_, t__law_seen_told m_isinstance m_list m_tuple (has_mono (k := 12) H__law_are_numbers (by decide)) (has_mono (k := 12) H_seen_by (by decide)) hr, p_seen_told⟩
  have b__law_inside_told : Binds K fd__law_inside_told ["hand", "boxes", "every", "known"] [] := F__law_inside_told.bindsN fun _ _ _ _ _ _ us hl => match us, hl with | [_, _, _, _], _ => rfl
  have H__law_inside_told : Has P w K mg base 3 "_law_inside_told" S__law_inside_told := has_of (k := 2) F__law_inside_told sc__law_inside_told g__law_inside_told b__law_inside_told len__law_inside_told fun cdv A outer s H E hr => ⟨_, t__law_inside_told m_bool m_isinstance m_len m_list m_range (has_mono (k := 2) H__law_draw (by decide)) (has_mono (k := 2) H_inside (by decide)) hr, p_inside_told⟩
  have b_law : Binds K fd_law ["script"] [] := F_law.bindsN fun _ _ _ _ _ _ us hl => match us, hl with | [_], _ => rfl
  exact (fn_ok (k := 13) F_law sc_law len_law fun cdv A outer s H E hr => ⟨_, t_law m_len (has_mono (k := 13) H__law_boxes (by decide)) (has_mono (k := 13) H__law_boxes_told (by decide)) (has_mono (k := 13) H__law_draw (by decide)) (has_mono (k := 13) H__law_hand (by decide)) (has_mono (k := 13) H__law_holds (by decide)) (has_mono (k := 13) H__law_inside_told (by decide)) (has_mono (k := 13) H__law_known (by decide)) (has_mono (k := 13) H__law_mixed (by decide)) (has_mono (k := 13) H__law_region (by decide)) (has_mono (k := 13) H__law_rows (by decide)) (has_mono (k := 13) H__law_second (by decide)) (has_mono (k := 13) H__law_seen (by decide)) (has_mono (k := 13) H__law_seen_told (by decide)) (has_mono (k := 13) H__law_sizes (by decide)) (has_mono (k := 13) H__law_states_told (by decide)) hr, p_law⟩).imp spLaw_imp
end R09

set_option maxRecDepth 100000
set_option maxHeartbeats 0
namespace R09
open PySem PySem.Spec PyProof.Rows L2
theorem run (w : World) : HandSHeadRun.RunEq R (PySem.W.view R.prog [32]) hk ob 4000 loose w := by
  intro os
  kernel_rfl
end R09
open PySem PySem.W PySem.Calls PyProof.Rows
set_option maxRecDepth 100000 in
set_option maxHeartbeats 0 in
theorem PySem.Challenge.cw_runcourt_k09_regions_holds : PySem.Challenge.rw_runcourt_k09_regions.Holds := by
  w_on; o_law
  refine HandSHeadRun.head_any (r := R09.R) (q := view (R09.R).prog [32]) (H := R09.hk) (ob := R09.ob) (M := 4000) (loose := R09.loose) (d := HandSHeadRun.topDef (R09.R).prog 32) (kwd := []) R09.ob_eq
    (by kernel_rfl) (fun s => by kernel_rfl) R09.run (by kernel_rfl) (by kernel_rfl) (by kernel_rfl) (by rfl) (by first | assumption | decide +kernel) (by decide +kernel) ⟨rfl, rfl, rfl, rfl, rfl, by decide +kernel⟩ ?hw ?hc
  case hw => w_witness2
  case hc =>
    refine L2.walk_ofE (l := PySem.Challenge.rw_runcourt_k09_regions) (n := 63) (k := 14) (x := "script") (CX := L2.CX0) rfl (by decide) (by kernel_rfl) ⟨rfl, by decide, by decide⟩ ?F (fun _ _ _ _ z => z)
    intro w mg fa h Y G hmg0
    obtain ⟨K, KX, c⟩ := Y
    have hmg : mg ("law" : PySem.Str) = some (.ref fa) := by
      have e : (HandSHeadRun.topDef (R09.R).prog 32).name = ("law" : PySem.Str) := by kernel_rfl
      rw [← e]
      exact hmg0
    obtain ⟨fd, hb, hF⟩ := R09.facts (P := (R09.R).prog) (w := w) KX G hmg c
    exact ⟨K, fd, R09.spLaw K, KX, hb, fun H a ns hl _ hS => ⟨a, ns, rfl, hl, hS, fun _ => rfl⟩, hF⟩

